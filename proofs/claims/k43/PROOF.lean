import PyProof.Rows.All
import Wide.All
import OpenK.AllK
import Wide.FinOn
import HandS.ForMost
import HandS.Conv
import HandS.Star
import HandS.Wide
import HandS.Defaults
import HandS.IsInst
import HandS.TupAny
import HandS.Deep
import KE.SortData
import HandS.SortOrd
import HandS.SortInts
import HandS.Zip
import HandS.Iter
import PyProof.EqLayable
import PyProof.P3Eq
import KE.GoesMore
import KE.GoesEnum
import HandS.Words
import HandS.Ends
import HandS.HeadEnd
import KE.KStateDown
import Lean
import HandS.More
import HandS.WordsExc
import HandS.Head0
import HandS.Head1
import HandS.Head2
import HandS.HeadHook1
import HandS.HeadHook2
import HandS.HeadHook4
import PySem.Challenge.RW_whichside_k43_whole_words_and_steps
set_option Elab.async false
set_option linter.all false
set_option maxRecDepth 100000
set_option maxHeartbeats 4000000
/-! DL0: data values, the store of what may change, how both lie in the heap. -/
namespace DL
open PySem PySem.Spec PyProof.Rows L2

/-- a value as data: tuples (and lists that nobody writes, rl) are told whole; what may change is an address -/
inductive D where
  | non | bl (b : Bool) | int (i : Int) | str (x : Str) | tup (xs : List D) | rl (xs : List D) | ref (a : Addr)

/-- an object that may change -/
inductive MO where
  | lst (xs : List D) | dK (kvs : List (Key × D)) | dT (kvs : List (List Key × D))
abbrev Sto := Addr → Option MO
def put (η : Sto) (a : Addr) (o : MO) : Sto := fun b => if b = a then some o else η b
theorem put_same {η : Sto} {a : Addr} {o : MO} : put η a o a = some o := if_pos rfl
theorem put_ne {η : Sto} {a b : Addr} {o : MO} (h : b ≠ a) : put η a o b = η b := if_neg h
theorem put_put {η : Sto} {a : Addr} {o u : MO} : put (put η a o) a u = put η a u := by
  funext b; unfold put; split <;> rfl
theorem put_self {η : Sto} {a : Addr} {o : MO} (h : η a = some o) : put η a o = η := by
  funext b; unfold put; split
  · next e => rw [e, h]
  · rfl
/-- η' knows all that η knows -/
def Sub (η η' : Sto) : Prop := ∀ a o, η a = some o → η' a = some o
theorem Sub.refl (η : Sto) : Sub η η := fun _ _ h => h
theorem Sub.trans {η η1 η2 : Sto} (a : Sub η η1) (b : Sub η1 η2) : Sub η η2 := fun c o h => b c o (a c o h)
theorem Sub.new {η : Sto} {p : Addr} {o : MO} (h : η p = none) : Sub η (put η p o) := fun a u e => by
  unfold put; split
  · next q => rw [q, h] at e; cases e
  · exact e
theorem Sub.put {η η' : Sto} (s : Sub η η') (a : Addr) (o : MO) : Sub (DL.put η a o) (DL.put η' a o) := fun b u e => by
  unfold DL.put at *; split
  · next q => rw [if_pos q] at e; exact e
  · next q => rw [if_neg q] at e; exact s b u e
theorem ne_fresh {η : Sto} {p a : Addr} {o : MO} (h : η a = some o) (hp : η p = none) : a ≠ p := fun e => by
  rw [e, hp] at h; cases h
/-- what is put at a new place is forgotten -/
theorem Sub.ofput {η η' : Sto} {p : Addr} {o : MO} (h : η p = none) (s : Sub η η') : Sub η (DL.put η' p o) := fun a u e => by
  rw [put_ne (ne_fresh e h)]; exact s a u e

section
variable (K : PySem.W.Frag)
/-- a list that nobody writes -/
def RdL (H : Hp) (a : Addr) (xs : List V) : Prop := (∃ o, H a = some (.frz o (.lst xs))) ∨
  ∃ (o : Obj) (its : Array Value) (n : Nat), K.lookup a = some o ∧ o.cls = .type "list" ∧ o.dict = none ∧ o.data = .seq its n ∧ its.size ≤ sizeLine ∧ Vals xs its.toList
theorem RdL.sq {H : Hp} {a : Addr} {xs : List V} (h : RdL K H a xs) : SqL K H a xs := by
  rcases h with ⟨o, e⟩ | e
  · exact .inl (.inr ⟨o, e⟩)
  · exact .inr e
mutual
inductive IsD (H : Hp) : V → D → Prop
  | non : IsD H .non .non
  | bl (b : Bool) : IsD H (.bl b) (.bl b)
  | int (i : Int) : IsD H (.int i) (.int i)
  | str (x : Str) : IsD H (.str x) (.str x)
  | tup {a : Addr} {vs : List V} {ds : List D} : SqT K H a vs → IsDs H vs ds → IsD H (.ref a) (.tup ds)
  | rl {a : Addr} {vs : List V} {ds : List D} : RdL K H a vs → IsDs H vs ds → IsD H (.ref a) (.rl ds)
  | ref (a : Addr) : IsD H (.ref a) (.ref a)
inductive IsDs (H : Hp) : List V → List D → Prop
  | nil : IsDs H [] []
  | cons {v : V} {vs : List V} {d : D} {ds : List D} : IsD H v d → IsDs H vs ds → IsDs H (v :: vs) (d :: ds)
end
/-- tuples stand -/
def TpM (H H' : Hp) : Prop := (∀ a xs, SqT K H a xs → SqT K H' a xs) ∧ ∀ a xs, RdL K H a xs → RdL K H' a xs
def MOk (H : Hp) (a : Addr) : MO → Prop
  | .lst ds => ∃ vs, H a = some (.lst vs) ∧ IsDs K H vs ds
  | .dK kvs => ∃ us, H a = some (.dK us) ∧ us.map (·.1) = kvs.map (·.1) ∧ IsDs K H (us.map (·.2)) (kvs.map (·.2))
  | .dT kvs => ∃ us, H a = some (.dT us) ∧ us.map (·.1) = kvs.map (·.1) ∧ IsDs K H (us.map (·.2)) (kvs.map (·.2))
def Abs (η : Sto) (H : Hp) : Prop := ∀ a o, η a = some o → MOk K H a o
def Sl (H : Hp) (σ : L2.St) (δ : List (Option D)) : Prop := σ.length = δ.length ∧ ∀ (i : Nat) d, δ[i]? = some (some d) → ∃ v, σ[i]? = some (some v) ∧ IsD K H v d
end
section
variable {K : PySem.W.Frag} {H H' H1 H2 : Hp} {v : V} {d : D} {vs : List V} {ds : List D} {η η' : Sto} {σ : L2.St} {δ : List (Option D)} {a : Addr} {o : HO}
theorem TpM.refl (K : PySem.W.Frag) (H : Hp) : TpM K H H := ⟨fun _ _ h => h, fun _ _ h => h⟩
theorem TpM.trans (h : TpM K H H1) (k : TpM K H1 H2) : TpM K H H2 := ⟨fun a xs e => k.1 a xs (h.1 a xs e), fun a xs e => k.2 a xs (h.2 a xs e)⟩
mutual
theorem IsD.mono (t : TpM K H H') : ∀ {v : V} {d : D}, IsD K H v d → IsD K H' v d
  | _, _, .non => .non
  | _, _, .bl b => .bl b
  | _, _, .int i => .int i
  | _, _, .str x => .str x
  | _, _, .tup h k => .tup (t.1 _ _ h) (IsDs.mono t k)
  | _, _, .rl h k => .rl (t.2 _ _ h) (IsDs.mono t k)
  | _, _, .ref a => .ref a
theorem IsDs.mono (t : TpM K H H') : ∀ {vs : List V} {ds : List D}, IsDs K H vs ds → IsDs K H' vs ds
  | _, _, .nil => .nil
  | _, _, .cons h k => .cons (IsD.mono t h) (IsDs.mono t k)
end
theorem IsDs.length : ∀ {vs : List V} {ds : List D}, IsDs K H vs ds → vs.length = ds.length
  | _, _, .nil => rfl
  | _, _, .cons _ k => by rw [List.length_cons, List.length_cons, IsDs.length k]
theorem IsDs.append : ∀ {vs us : List V} {ds es : List D}, IsDs K H vs ds → IsDs K H us es → IsDs K H (vs ++ us) (ds ++ es)
  | _, _, _, _, .nil, k => k
  | _, _, _, _, .cons h t, k => .cons h (IsDs.append t k)
theorem IsDs.get : ∀ {vs : List V} {ds : List D} {i : Nat} {d : D}, IsDs K H vs ds → ds[i]? = some d → ∃ v, vs[i]? = some v ∧ IsD K H v d
  | _, _, _, _, .nil, e => by simp at e
  | _, _, 0, _, .cons h _, e => by simp at e; subst e; exact ⟨_, rfl, h⟩
  | _, _, i + 1, _, .cons _ t, e => by
    obtain ⟨v, h1, h2⟩ := IsDs.get (i := i) t (by simpa using e)
    exact ⟨v, by simpa using h1, h2⟩
theorem IsDs.getV : ∀ {vs : List V} {ds : List D} {i : Nat} {v : V}, IsDs K H vs ds → vs[i]? = some v → ∃ d, ds[i]? = some d ∧ IsD K H v d
  | _, _, _, _, .nil, e => by simp at e
  | _, _, 0, _, .cons h _, e => by simp at e; subst e; exact ⟨_, rfl, h⟩
  | _, _, i + 1, _, .cons _ t, e => by
    obtain ⟨d, h1, h2⟩ := IsDs.getV (i := i) t (by simpa using e)
    exact ⟨d, by simpa using h1, h2⟩
theorem IsDs.take : ∀ {vs : List V} {ds : List D} (n : Nat), IsDs K H vs ds → IsDs K H (vs.take n) (ds.take n)
  | _, _, 0, _ => .nil
  | _, _, _ + 1, .nil => .nil
  | _, _, n + 1, .cons h t => .cons h (IsDs.take n t)
theorem IsDs.drop : ∀ {vs : List V} {ds : List D} (n : Nat), IsDs K H vs ds → IsDs K H (vs.drop n) (ds.drop n)
  | _, _, 0, h => h
  | _, _, _ + 1, .nil => .nil
  | _, _, n + 1, .cons _ t => IsDs.drop n t
theorem IsDs.set : ∀ {vs : List V} {ds : List D} {v : V} {d : D} (i : Nat), IsD K H v d → IsDs K H vs ds → IsDs K H (vs.set i v) (ds.set i d)
  | _, _, _, _, _, _, .nil => .nil
  | _, _, _, _, 0, h, .cons _ t => .cons h t
  | _, _, _, _, i + 1, h, .cons k t => .cons k (IsDs.set i h t)
theorem IsDs.erase : ∀ {vs : List V} {ds : List D} (i : Nat), IsDs K H vs ds → IsDs K H (vs.eraseIdx i) (ds.eraseIdx i)
  | _, _, _, .nil => .nil
  | _, _, 0, .cons _ t => t
  | _, _, i + 1, .cons k t => .cons k (IsDs.erase i t)
theorem IsDs.reverse {vs : List V} {ds : List D} (h : IsDs K H vs ds) : IsDs K H vs.reverse ds.reverse := by
  have go : ∀ {vs : List V} {ds : List D}, IsDs K H vs ds → ∀ {us : List V} {es : List D}, IsDs K H us es → IsDs K H (vs.reverse ++ us) (ds.reverse ++ es) := by
    intro vs
    induction vs with
    | nil => intro ds h us es k; cases h; exact k
    | cons v vs ih =>
      intro ds h us es k
      cases h with
      | cons h t =>
        rw [List.reverse_cons, List.reverse_cons, List.append_assoc, List.append_assoc]
        exact ih t (.cons h k)
  have q := go h IsDs.nil
  simpa using q
theorem Sl.mono (t : TpM K H H') (h : Sl K H σ δ) : Sl K H' σ δ := ⟨h.1, fun i d e => let ⟨v, q, k⟩ := h.2 i d e; ⟨v, q, k.mono t⟩⟩
theorem Sl.set (h : Sl K H σ δ) (i : Nat) (k : IsD K H v d) : Sl K H (σ.set i (some v)) (δ.set i (some d)) := by
  refine ⟨by rw [List.length_set, List.length_set, h.1], fun j e q => ?_⟩
  by_cases hj : i = j
  · subst hj
    by_cases hl : i < δ.length
    · rw [List.getElem?_set_self hl] at q
      cases q
      exact ⟨v, List.getElem?_set_self (by rw [h.1]; exact hl), k⟩
    · rw [List.getElem?_eq_none (by rw [List.length_set]; omega)] at q; cases q
  · rw [List.getElem?_set_ne hj] at q ⊢
    exact h.2 j e q
/-- what is no tuple and not known to its object may change -/
theorem TpM.upd (h : ∀ xs, H a ≠ some (.tup xs)) (k : ∀ o u, H a ≠ some (.frz o u)) : TpM K H (L2.upd H a o) := by
  constructor
  · intro b xs e
    rcases e with (e | ⟨u, e⟩) | e
    · exact .inl (.inl (by rw [upd_ne (fun q => by subst q; exact h xs e)]; exact e))
    · exact .inl (.inr ⟨u, by rw [upd_ne (fun q => by subst q; exact k u _ e)]; exact e⟩)
    · exact .inr e
  · intro b xs e
    rcases e with ⟨u, e⟩ | e
    · exact .inl ⟨u, by rw [upd_ne (fun q => by subst q; exact k u _ e)]; exact e⟩
    · exact .inr e
theorem TpM.new (h : H a = none) : TpM K H (L2.upd H a o) := TpM.upd (by rw [h]; intro _ q; cases q) (by rw [h]; intro _ _ q; cases q)
theorem TpM.lst {xs : List V} (h : H a = some (.lst xs)) : TpM K H (L2.upd H a o) := TpM.upd (by rw [h]; intro _ q; cases q) (by rw [h]; intro _ _ q; cases q)
theorem TpM.dK {xs : List (Key × V)} (h : H a = some (.dK xs)) : TpM K H (L2.upd H a o) := TpM.upd (by rw [h]; intro _ q; cases q) (by rw [h]; intro _ _ q; cases q)
theorem TpM.dT {xs : List (List Key × V)} (h : H a = some (.dT xs)) : TpM K H (L2.upd H a o) := TpM.upd (by rw [h]; intro _ q; cases q) (by rw [h]; intro _ _ q; cases q)
theorem MOk.upd {b : Addr} {m : MO} (t : TpM K H (L2.upd H a o)) (hb : b ≠ a) (h : MOk K H b m) : MOk K (L2.upd H a o) b m := by
  cases m with
  | lst ds => obtain ⟨vs, e, k⟩ := h; exact ⟨vs, by rw [upd_ne hb]; exact e, k.mono t⟩
  | dK kvs => obtain ⟨us, e, k1, k2⟩ := h; exact ⟨us, by rw [upd_ne hb]; exact e, k1, k2.mono t⟩
  | dT kvs => obtain ⟨us, e, k1, k2⟩ := h; exact ⟨us, by rw [upd_ne hb]; exact e, k1, k2.mono t⟩
/-- a new object that is not told -/
theorem Abs.new (h : Abs K η H) (hn : η a = none) (t : TpM K H (L2.upd H a o)) : Abs K η (L2.upd H a o) := fun b m e =>
  MOk.upd t (ne_fresh e hn) (h b m e)
theorem Abs.put {m : MO} (h : Abs K η H) (t : TpM K H (L2.upd H a o)) (k : MOk K (L2.upd H a o) a m) : Abs K (put η a m) (L2.upd H a o) := fun b u e => by
  by_cases hb : b = a
  · subst hb; rw [put_same] at e; cases e; exact k
  · rw [put_ne hb] at e; exact MOk.upd t hb (h b u e)
theorem Abs.sub (h : Abs K η H) (s : Sub η' η) : Abs K η' H := fun a o e => h a o (s a o e)
/-- what the store tells is tracked -/
theorem MOk.not_none {m : MO} (h : MOk K H a m) : H a ≠ none := by
  cases m with
  | lst ds => obtain ⟨vs, e, _⟩ := h; rw [e]; simp
  | dK ds => obtain ⟨vs, e, _⟩ := h; rw [e]; simp
  | dT ds => obtain ⟨vs, e, _⟩ := h; rw [e]; simp
theorem Abs.free (h : Abs K η H) (e : H a = none) : η a = none := by
  cases q : η a with
  | none => rfl
  | some o => exact absurd e (h a o q).not_none
end
end DL

set_option Elab.async false
set_option linter.all false
set_option maxRecDepth 100000
set_option maxHeartbeats 4000000
/-! DL1: own syntax trees (names are slots), and what each asks: predicate transformers over data and the store. -/
namespace DL
open PySem PySem.Spec PyProof.Rows L2

inductive BOp where | add | sub | mul | fdiv | mod | pow
  deriving DecidableEq
inductive COp where | lt | le | gt | ge | eq | ne | isn | notn | inn | nin
  deriving DecidableEq
/-- built-in functions and classes that are called -/
inductive BN where | len | abs | int | str | repr | tuple | list | all | any | sum | min | max | sorted | set | zip
  deriving DecidableEq
/-- methods of built-in classes -/
inductive MN where | append | extend | insert | pop | index | count | remove | join | split
  deriving DecidableEq
mutual
inductive E where
  | var (i : Nat) | int (i : Int) | str (x : Str) | bl (b : Bool) | non | glo (x : Str)
  | bin (o : BOp) (a b : E) | neg (a : E)
  | cmp (o : COp) (a b : E) | chn (o p : COp) (a b c : E)
  | and (a b : E) | or (a b : E) | not (a : E)
  | ife (c a b : E)
  | idx (a i : E) | slc (a : E) (lo hi : Oe) | rev (a : E)
  | tup (es : Es) | lst (es : Es) | dic
  | call (f : Str) (es : Es) | callk (f : Str) (ks : List Str) (es : Es)
  | isI (a : E) (T : String) | blt (f : BN) (es : Es) | rng (tp : Bool) (es : Es)
  | mth (m : MN) (a : E) (es : Es)
  | lc (elt : E) (t : Tg) (it : I) (ifs : Es) (own : List Nat)
inductive Es where | nil | cons (e : E) (es : Es) | star (e : E) (es : Es)
inductive Oe where | no | yes (e : E)
inductive I where | of (e : E) | rng (es : Es) | enm (i : I) | zip (es : Es)
inductive Tg where | name (i : Nat) | tup (ts : Tgs) | sub (a i : E)
inductive Tgs where | nil | cons (t : Tg) (ts : Tgs)
end
mutual
inductive S where
  | asg (t : Tg) (e : E) | par (i j : Nat) (a b : E) | ex (e : E) | ret (e : E) | retN
  | ife (c : E) (a b : Ss) | for_ (t : Tg) (i : I) (b : Ss) | whl (c : E) (b : Ss) | never | pass | brk | cont
inductive Ss where | nil | cons (s : S) (ss : Ss)
end
/-- statement lists, expression lists written in brackets -/
def Ss.of : List S → Ss
  | [] => .nil
  | s :: r => .cons s (Ss.of r)
def Es.of : List E → Es
  | [] => .nil
  | s :: r => .cons s (Es.of r)
def Tgs.of : List Tg → Tgs
  | [] => .nil
  | s :: r => .cons s (Tgs.of r)

def Tgs.len : Tgs → Nat
  | .nil => 0
  | .cons _ ts => ts.len + 1
abbrev DSt := List (Option D)
abbrev DK := D → Sto → Prop
abbrev DE := DSt → Sto → DK → Prop
abbrev DT := DSt → Sto → (Bool → Sto → Prop) → Prop
abbrev DA := DSt → Sto → (List D → Sto → Prop) → Prop
abbrev DO := DSt → Sto → (Option Int → Sto → Prop) → Prop
abbrev DG := D → DSt → Sto → (DSt → Sto → Prop) → Prop
abbrev DGs := List D → DSt → Sto → (DSt → Sto → Prop) → Prop
abbrev DI := DSt → Sto → (List D → (Sto → Prop) → Sto → Prop) → Prop
structure DEnds where
  nx : DSt → Sto → Prop
  rt : DK
  bk : DSt → Sto → Prop := fun _ _ => False
  ct : DSt → Sto → Prop := fun _ _ => False
abbrev DS := DEnds → DSt → Sto → Prop
/-- what calls of own defs ask -/
abbrev Calls := Str → List D → Sto → DK → Prop

/-! ### data as PyData (for ==, repr, sorted) -/
mutual
inductive Pd (η : Sto) : D → PyData → Prop
  | non : Pd η .non .none
  | bl (b : Bool) : Pd η (.bl b) (.bool b)
  | int (i : Int) : Pd η (.int i) (.int i)
  | str (x : Str) : Pd η (.str x) (.str x)
  | tup {ds : List D} {ps : List PyData} : Pds η ds ps → Pd η (.tup ds) (.tuple ps)
  | rl {ds : List D} {ps : List PyData} : Pds η ds ps → Pd η (.rl ds) (.list ps)
  | lst {a : Addr} {ds : List D} {ps : List PyData} : η a = some (.lst ds) → Pds η ds ps → Pd η (.ref a) (.list ps)
  | dic {a : Addr} : η a = some (.dK []) → Pd η (.ref a) (.dict [])
inductive Pds (η : Sto) : List D → List PyData → Prop
  | nil : Pds η [] []
  | cons {d : D} {ds : List D} {p : PyData} {ps : List PyData} : Pd η d p → Pds η ds ps → Pds η (d :: ds) (p :: ps)
end
mutual
def noLst : PyData → Bool
  | .list _ => false
  | .tuple ps => noLsts ps
  | .dict kvs => kvs.isEmpty
  | _ => true
def noLsts : List PyData → Bool
  | [] => true
  | p :: ps => noLst p && noLsts ps
end

/-! ### operations on data -/
def cut {α : Type} (xs : List α) (lo hi : Option Int) : List α := (xs.drop (HT.sIx xs.length 0 lo)).take (HT.sIx xs.length xs.length hi - HT.sIx xs.length 0 lo)
def opD : BOp → D → D → Sto → DK → Prop
  | .add, .int i, .int j, η, Q => Q (.int (i + j)) η
  | .add, .str a, .str b, η, Q => a.length + b.length ≤ sizeLine ∧ Q (.str (a ++ b)) η
  | .add, .tup a, .tup b, η, Q => a.length + b.length ≤ sizeLine ∧ Q (.tup (a ++ b)) η
  | .add, .ref a, .ref b, η, Q => ∃ xs ys, η a = some (.lst xs) ∧ η b = some (.lst ys) ∧ xs.length + ys.length ≤ sizeLine ∧ ∀ p, η p = none → Q (.ref p) (put η p (.lst (xs ++ ys)))
  | .sub, .int i, .int j, η, Q => Q (.int (i - j)) η
  | .mul, .int i, .int j, η, Q => IntMulOk i j ∧ Q (.int (i * j)) η
  | .fdiv, .int i, .int j, η, Q => CDivW i j ∧ Q (.int (i / j)) η
  | .mod, .int i, .int j, η, Q => 0 < j ∧ Q (.int (i % j)) η
  | .pow, .int i, .int j, η, Q => 0 ≤ j ∧ (Builtin.Int.intBits i : Int) * j ≤ 2 ^ 27 ∧ Q (.int (i ^ j.toNat)) η
  | _, _, _, _, _ => False
/-- flat items, compared by value (as x in t) -/
def flatD : D → Bool
  | .non => true | .bl _ => true | .int _ => true | .str _ => true | _ => false
def eqF : D → D → Bool
  | .non, .non => true
  | .bl a, .bl b => a == b
  | .int a, .int b => decide (a = b)
  | .str a, .str b => decide (a = b)
  | .bl a, .int b => decide ((if a then 1 else 0 : Int) = b)
  | .int a, .bl b => decide (a = (if b then 1 else 0 : Int))
  | _, _ => false
def isNon : D → Bool
  | .non => true
  | _ => false
/-- the items of a sequence -/
def seqD : D → Sto → List D → Prop
  | .tup xs, _, ys => ys = xs
  | .rl xs, _, ys => ys = xs
  | .ref a, η, ys => η a = some (.lst ys)
  | _, _, _ => False
/-- a list's items -/
def lstD : D → Sto → List D → Prop
  | .rl xs, _, ys => ys = xs
  | .ref a, η, ys => η a = some (.lst ys)
  | _, _, _ => False
def cmpD : COp → D → D → Sto → (Bool → Sto → Prop) → Prop
  | .lt, .int i, .int j, η, Q => Q (decide (i < j)) η
  | .le, .int i, .int j, η, Q => Q (decide (i ≤ j)) η
  | .gt, .int i, .int j, η, Q => Q (decide (j < i)) η
  | .ge, .int i, .int j, η, Q => Q (decide (j ≤ i)) η
  | .isn, x, .non, η, Q => Q (isNon x) η
  | .notn, x, .non, η, Q => Q (!isNon x) η
  | .eq, x, y, η, Q => (∃ i j, x = .int i ∧ y = .int j ∧ Q (decide (i = j)) η) ∨ (∃ i j, x = .str i ∧ y = .str j ∧ Q (decide (i = j)) η) ∨ ∃ p q, Pd η x p ∧ Pd η y q ∧ SeqAt.shaped p = true ∧ SeqAt.shaped q = true ∧ Q (PyData.eqv p q) η
  | .ne, x, y, η, Q => (∃ i j, x = .int i ∧ y = .int j ∧ Q (!decide (i = j)) η) ∨ (∃ i j, x = .str i ∧ y = .str j ∧ Q (!decide (i = j)) η) ∨ ∃ p q, Pd η x p ∧ Pd η y q ∧ SeqAt.shaped p = true ∧ SeqAt.shaped q = true ∧ Q (!PyData.eqv p q) η
  | .inn, x, y, η, Q => ∃ xs p ps, seqD y η xs ∧ Pd η x p ∧ Pds η xs ps ∧ SeqAt.shaped p = true ∧ (∀ q ∈ ps, SeqAt.shaped q = true) ∧ Q (ps.any fun q => PyData.eqv q p) η
  | .nin, x, y, η, Q => ∃ xs p ps, seqD y η xs ∧ Pd η x p ∧ Pds η xs ps ∧ SeqAt.shaped p = true ∧ (∀ q ∈ ps, SeqAt.shaped q = true) ∧ Q (!ps.any fun q => PyData.eqv q p) η
  | _, _, _, _, _ => False
def idxD : D → D → Sto → DK → Prop
  | .tup xs, .int i, η, Q => ∃ d, atI xs i = some d ∧ Q d η
  | .rl xs, .int i, η, Q => ∃ d, atI xs i = some d ∧ Q d η
  | .ref a, .int i, η, Q => ∃ xs d, η a = some (.lst xs) ∧ atI xs i = some d ∧ Q d η
  | .str z, .int i, η, Q => ∃ c, z.length ≤ sizeLine ∧ atI z.cps.toList i = some c ∧ Q (.str ⟨#[c]⟩) η
  | _, _, _, _ => False
def slcD : D → Option Int → Option Int → Sto → DK → Prop
  | .tup xs, lo, hi, η, Q => Q (.tup (cut xs lo hi)) η
  | .rl xs, lo, hi, η, Q => ∀ p, η p = none → Q (.ref p) (put η p (.lst (cut xs lo hi)))
  | .ref a, lo, hi, η, Q => ∃ xs, η a = some (.lst xs) ∧ ∀ p, η p = none → Q (.ref p) (put η p (.lst (cut xs lo hi)))
  | .str z, lo, hi, η, Q => z.length ≤ sizeLine ∧ Q (.str (cutS z lo hi)) η
  | _, _, _, _, _ => False
def revD : D → Sto → DK → Prop
  | .tup xs, η, Q => Q (.tup xs.reverse) η
  | .ref a, η, Q => ∃ xs, η a = some (.lst xs) ∧ ∀ p, η p = none → Q (.ref p) (put η p (.lst xs.reverse))
  | _, _, _ => False
def clsD : D → Sto → String → Prop
  | .non, _, c => c = "NoneType"
  | .bl _, _, c => c = "bool"
  | .int _, _, c => c = "int"
  | .str _, _, c => c = "str"
  | .tup _, _, c => c = "tuple"
  | .rl _, _, c => c = "list"
  | .ref a, η, c => (∃ xs, η a = some (.lst xs) ∧ c = "list") ∨ ∃ kvs, η a = some (.dK kvs) ∧ c = "dict"
/-- whether an object of class c is one of T -/
def isCls (c T : String) : Bool := c == T || (c == "bool" && T == "int")
def bltD : BN → List D → Sto → DK → Prop
  | .len, [.str z], η, Q => z.length ≤ sizeLine ∧ Q (.int z.length) η
  | .len, [x], η, Q => ∃ xs, seqD x η xs ∧ Q (.int xs.length) η
  | .abs, [.int i], η, Q => Q (.int (if i < 0 then -i else i)) η
  | .int, [.int i], η, Q => Q (.int i) η
  | .int, [.bl b], η, Q => Q (.int (if b then 1 else 0)) η
  | .str, [.int i], η, Q => i.natAbs.log2 < 1920 ∧ Q (.str (toString i)) η
  | .repr, [x], η, Q => ∃ p, Pd η x p ∧ (p.showable = true ∧ (p.hasDict = false ∨ noLst p = true) ∧ p.depth ≤ 60) ∧ p.shown.length ≤ sizeLine ∧ Q (.str p.shown) η
  | .tuple, [x], η, Q => ∃ xs, seqD x η xs ∧ Q (.tup xs) η
  | .list, [x], η, Q => ∃ xs, seqD x η xs ∧ ∀ p, η p = none → Q (.ref p) (put η p (.lst xs))
  | .all, [x], η, Q => ∃ bs : List Bool, lstD x η (bs.map .bl) ∧ Q (.bl (bs.all id)) η
  | .any, [x], η, Q => ∃ bs : List Bool, lstD x η (bs.map .bl) ∧ Q (.bl (bs.any id)) η
  | .sum, [x], η, Q => ∃ ns : List Int, lstD x η (ns.map .int) ∧ Q (.int ns.sum) η
  | .sorted, [x], η, Q => ∃ xs, lstD x η xs ∧ (xs.length ≤ 1 ∧ (∀ p, η p = none → Q (.ref p) (put η p (.lst xs))) ∨ ∃ ps, Pds η xs ps ∧ PySem.W.AllAlike ps ∧ PySem.W.Sortable ps ∧ (∀ q ∈ ps, q.depth ≤ 60) ∧ ∀ p, η p = none → Q (.ref p) (put η p (.lst (((xs.zip ps).mergeSort (PySem.W.dataLe false Prod.snd)).map Prod.fst))))
  | .max, [.int i, .int j], η, Q => Q (.int (if j > i then j else i)) η
  | .min, [.int i, .int j], η, Q => Q (.int (if j < i then j else i)) η
  | _, _, _, _ => False
def tyD : MN → D → Sto → Prop
  | .join, .str _, _ => True
  | .split, .str _, _ => True
  | .append, .ref a, η | .extend, .ref a, η | .insert, .ref a, η | .pop, .ref a, η | .index, .ref a, η | .count, .ref a, η | .remove, .ref a, η => ∃ xs, η a = some (.lst xs)
  | _, _, _ => False
def mthD : MN → D → List D → Sto → DK → Prop
  | .append, .ref a, [y], η, Q => ∃ xs, η a = some (.lst xs) ∧ xs.length < sizeLine ∧ Q .non (put η a (.lst (xs ++ [y])))
  | .extend, .ref a, [.ref b], η, Q => ∃ xs ys, η a = some (.lst xs) ∧ η b = some (.lst ys) ∧ xs.length + ys.length ≤ sizeLine ∧ Q .non (put η a (.lst (xs ++ ys)))
  | .pop, .ref a, [], η, Q => ∃ xs y, η a = some (.lst (xs ++ [y])) ∧ Q y (put η a (.lst xs))
  | .pop, .ref a, [.int i], η, Q => ∃ xs y, η a = some (.lst xs) ∧ 0 ≤ i ∧ i < 2 ^ 62 ∧ xs[i.toNat]? = some y ∧ Q y (put η a (.lst (xs.eraseIdx i.toNat)))
  | _, _, _, _, _ => False
def setD : D → D → D → Sto → (Sto → Prop) → Prop
  | .ref a, .int i, v, η, Q => ∃ xs j, η a = some (.lst xs) ∧ ixN xs.length i = some j ∧ Q (put η a (.lst (xs.set j v)))
  | _, _, _, _, _ => False

/-! ### loops -/
def dwipe (δ : DSt) : List Nat → DSt
  | [] => δ
  | v :: vs => (dwipe δ vs).set v none
def lcLoop (g : DG) (tt : DT) (te : DE) (δ : DSt) (gd : Sto → Prop) (p : Addr) : List D → Sto → (Sto → Prop) → Prop
  | [], η, Q => gd η ∧ Q η
  | x :: xs, η, Q => gd η ∧ g x δ η fun δ2 η2 => tt δ2 η2 fun b η3 => if b = true then te δ2 η3 fun d η4 => ∃ acc, η4 p = some (.lst acc) ∧ acc.length < sizeLine ∧ lcLoop g tt te δ gd p xs (put η4 p (.lst (acc ++ [d]))) Q else lcLoop g tt te δ gd p xs η3 Q
def forLoop (g : DG) (tb : DS) (gd : Sto → Prop) : List D → DEnds → DSt → Sto → Prop
  | [], D, δ, η => gd η ∧ D.nx δ η
  | x :: xs, D, δ, η => gd η ∧ g x δ η fun δ2 η2 => tb { D with nx := fun δ η => forLoop g tb gd xs D δ η, ct := fun δ η => forLoop g tb gd xs D δ η, bk := D.nx } δ2 η2
def whlLoop (c : DT) (tb : DS) : Nat → DEnds → DSt → Sto → Prop
  | 0, _, _, _ => False
  | n + 1, D, δ, η => c δ η fun b η1 => if b = true then tb { D with nx := fun δ η => whlLoop c tb n D δ η, ct := fun δ η => whlLoop c tb n D δ η, bk := D.nx } δ η1 else D.nx δ η1
/-- a range's ints -/
def rngD (lo hi : Int) : List D := (List.range (hi - lo).toNat).map fun (i : Nat) => .int (lo + i)
def inR (i : Int) : Prop := -(2 ^ 62) ≤ i ∧ i < 2 ^ 62
def itD : D → Sto → (List D → (Sto → Prop) → Sto → Prop) → Prop
  | .tup xs, η, Q => Q xs (fun _ => True) η
  | .rl xs, η, Q => Q xs (fun _ => True) η
  | .ref a, η, Q => ∃ xs, η a = some (.lst xs) ∧ Q xs (fun η' => η' a = some (.lst xs)) η
  | _, _, _ => False
def rgD : List D → Sto → (Int → Int → Sto → Prop) → Prop
  | [.int n], η, Q => inR n ∧ Q 0 n η
  | [.int a, .int b], η, Q => inR a ∧ inR b ∧ Q a b η
  | _, _, _ => False
/-- the items of zip of sequences -/
def zipL : List (List D) → List D
  | [xs, ys] => (xs.zip ys).map fun p => .tup [p.1, p.2]
  | [xs, ys, zs] => (xs.zip (ys.zip zs)).map fun p => .tup [p.1, p.2.1, p.2.2]
  | _ => []
def zipD : List D → Sto → (List D → (Sto → Prop) → Sto → Prop) → Prop
  | [x, y], η, Q => ∃ xs ys, seqD x η xs ∧ seqD y η ys ∧ Q (zipL [xs, ys]) (fun η' => seqD x η' xs ∧ seqD y η' ys) η
  | [x, y, z], η, Q => ∃ xs ys zs, seqD x η xs ∧ seqD y η ys ∧ seqD z η zs ∧ Q (zipL [xs, ys, zs]) (fun η' => seqD x η' xs ∧ seqD y η' ys ∧ seqD z η' zs) η
  | _, _, _ => False
def enmL (xs : List D) : List D := xs.zipIdx.map fun p => .tup [.int (p.2 : Nat), p.1]

/-! ### readings -/
section
variable (C : Calls) (G : Str → Option D)
mutual
def rdE : E → DE
  | .var i => fun δ η Q => ∃ d, δ[i]? = some (some d) ∧ Q d η
  | .int i => fun _ η Q => Q (.int i) η
  | .str x => fun _ η Q => Q (.str x) η
  | .bl b => fun _ η Q => Q (.bl b) η
  | .non => fun _ η Q => Q .non η
  | .glo x => fun _ η Q => ∃ d, G x = some d ∧ Q d η
  | .bin o a b => fun δ η Q => rdE a δ η fun x η1 => rdE b δ η1 fun y η2 => opD o x y η2 Q
  | .neg a => fun δ η Q => rdE a δ η fun x η1 => ∃ i, x = .int i ∧ Q (.int (-i)) η1
  | .cmp o a b => fun δ η Q => rdE a δ η fun x η1 => rdE b δ η1 fun y η2 => cmpD o x y η2 fun c η3 => Q (.bl c) η3
  | .chn o p a b c => fun δ η Q => rdE a δ η fun x η1 => rdE b δ η1 fun y η2 => cmpD o x y η2 fun k η3 => if k = true then rdE c δ η3 fun z η4 => cmpD p y z η4 fun k η5 => Q (.bl k) η5 else Q (.bl false) η3
  | .and a b => fun δ η Q => rdE a δ η fun x η1 => ∃ c, x = .bl c ∧ if c = true then rdE b δ η1 Q else Q (.bl false) η1
  | .or a b => fun δ η Q => rdE a δ η fun x η1 => ∃ c, x = .bl c ∧ if c = true then Q (.bl true) η1 else rdE b δ η1 Q
  | .not a => fun δ η Q => rdE a δ η fun x η1 => ∃ c, x = .bl c ∧ Q (.bl (!c)) η1
  | .ife c a b => fun δ η Q => rdT c δ η fun k η1 => if k = true then rdE a δ η1 Q else rdE b δ η1 Q
  | .idx a i => fun δ η Q => rdE a δ η fun x η1 => rdE i δ η1 fun y η2 => idxD x y η2 Q
  | .slc a lo hi => fun δ η Q => rdE a δ η fun x η1 => rdO lo δ η1 fun l η2 => rdO hi δ η2 fun h η3 => slcD x l h η3 Q
  | .rev a => fun δ η Q => rdE a δ η fun x η1 => revD x η1 Q
  | .tup es => fun δ η Q => rdA es δ η fun xs η1 => xs.length ≤ sizeLine ∧ Q (.tup xs) η1
  | .lst es => fun δ η Q => rdA es δ η fun xs η1 => xs.length ≤ sizeLine ∧ ∀ p, η1 p = none → Q (.ref p) (put η1 p (.lst xs))
  | .dic => fun _ η Q => ∀ p, η p = none → Q (.ref p) (put η p (.dK []))
  | .call f es => fun δ η Q => rdA es δ η fun xs η1 => C f xs η1 Q
  | .callk f _ es => fun δ η Q => rdA es δ η fun xs η1 => C f xs η1 Q
  | .isI a T => fun δ η Q => rdE a δ η fun x η1 => ∃ c, clsD x η1 c ∧ Q (.bl (isCls c T)) η1
  | .blt f es => fun δ η Q => rdA es δ η fun xs η1 => bltD f xs η1 fun d η2 => ∃ η3, Sub η3 η2 ∧ Q d η3
  | .rng tp es => fun δ η Q => rdA es δ η fun xs η1 => rgD xs η1 fun lo hi η2 => (hi - lo).toNat ≤ sizeLine ∧ if tp = true then Q (.tup (rngD lo hi)) η2 else ∀ p, η2 p = none → Q (.ref p) (put η2 p (.lst (rngD lo hi)))
  | .mth m a es => fun δ η Q => rdE a δ η fun x η1 => tyD m x η1 ∧ rdA es δ η1 fun xs η2 => mthD m x xs η2 Q
  | .lc elt t it ifs own => fun δ η Q => rdI it δ η fun L gd η1 => ∀ p, η1 p = none → lcLoop (rdG t) (rdTs ifs) (rdE elt) (dwipe δ own) gd p L (put η1 p (.lst [])) fun η2 => Q (.ref p) η2
def rdT : E → DT
  | .and a b => fun δ η Q => rdT a δ η fun c η1 => if c = true then rdT b δ η1 Q else Q false η1
  | .or a b => fun δ η Q => rdT a δ η fun c η1 => if c = true then Q true η1 else rdT b δ η1 Q
  | .not a => fun δ η Q => rdT a δ η fun c η1 => Q (!c) η1
  | .cmp o a b => fun δ η Q => rdE a δ η fun x η1 => rdE b δ η1 fun y η2 => cmpD o x y η2 Q
  | .chn o p a b c => fun δ η Q => rdE a δ η fun x η1 => rdE b δ η1 fun y η2 => cmpD o x y η2 fun k η3 => if k = true then rdE c δ η3 fun z η4 => cmpD p y z η4 Q else Q false η3
  | .bl b => fun _ η Q => Q b η
  | .var i => fun δ η Q => ∃ b, δ[i]? = some (some (.bl b)) ∧ Q b η
  | .call f es => fun δ η Q => rdA es δ η fun xs η1 => C f xs η1 fun d η2 => ∃ b, d = .bl b ∧ Q b η2
  | .isI a T => fun δ η Q => rdE a δ η fun x η1 => ∃ c, clsD x η1 c ∧ Q (isCls c T) η1
  | .blt f es => fun δ η Q => rdA es δ η fun xs η1 => bltD f xs η1 fun d η2 => ∃ b η3, d = .bl b ∧ Sub η3 η2 ∧ Q b η3
  | _ => fun _ _ _ => False
def rdA : Es → DA
  | .nil => fun _ η Q => Q [] η
  | .cons e es => fun δ η Q => rdE e δ η fun x η1 => rdA es δ η1 fun xs η2 => Q (x :: xs) η2
  | .star e es => fun δ η Q => rdE e δ η fun x η1 => ∃ ys, seqD x η1 ys ∧ rdA es δ η1 fun xs η2 => Q (ys ++ xs) η2
def rdTs : Es → DT
  | .nil => fun _ η Q => Q true η
  | .cons e .nil => rdT e
  | _ => fun _ _ _ => False
def rdO : Oe → DO
  | .no => fun _ η Q => Q none η
  | .yes e => fun δ η Q => rdE e δ η fun x η1 => ∃ i, x = .int i ∧ Q (some i) η1
def rdI : I → DI
  | .of e => fun δ η Q => rdE e δ η fun x η1 => itD x η1 Q
  | .rng es => fun δ η Q => rdA es δ η fun xs η1 => rgD xs η1 fun lo hi η2 => Q (rngD lo hi) (fun _ => True) η2
  | .enm (.of e) => fun δ η Q => rdE e δ η fun x η1 => itD x η1 fun L gd η2 => Q (enmL L) gd η2
  | .enm (.zip es) => fun δ η Q => rdA es δ η fun xs η1 => zipD xs η1 fun L gd η2 => Q (enmL L) gd η2
  | .enm _ => fun _ _ _ => False
  | .zip es => fun δ η Q => rdA es δ η fun xs η1 => zipD xs η1 Q
def rdG : Tg → DG
  | .name i => fun v δ η Q => Q (δ.set i (some v)) η
  | .tup ts => fun v δ η Q => ∃ xs, v = .tup xs ∧ xs.length = ts.len ∧ rdGs ts xs δ η Q
  | .sub a i => fun v δ η Q => rdE a δ η fun x η1 => rdE i δ η1 fun y η2 => setD x y v η2 fun η3 => Q δ η3
def rdGs : Tgs → DGs
  | .nil => fun vs δ η Q => vs = [] ∧ Q δ η
  | .cons t ts => fun vs δ η Q => ∃ v r, vs = v :: r ∧ rdG t v δ η fun δ1 η1 => rdGs ts r δ1 η1 Q
end
mutual
def rdS : S → DS
  | .asg t e => fun D δ η => rdE C G e δ η fun x η1 => rdG C G t x δ η1 D.nx
  | .par i j a b => fun D δ η => rdE C G a δ η fun x η1 => rdE C G b δ η1 fun y η2 => D.nx ((δ.set i (some x)).set j (some y)) η2
  | .ex e => fun D δ η => rdE C G e δ η fun _ η1 => D.nx δ η1
  | .ret e => fun D δ η => rdE C G e δ η D.rt
  | .retN => fun D _ η => D.rt .non η
  | .ife c a b => fun D δ η => rdT C G c δ η fun k η1 => if k = true then rdSs a D δ η1 else rdSs b D δ η1
  | .for_ t i b => fun D δ η => rdI C G i δ η fun L gd η1 => forLoop (rdG C G t) (rdSs b) gd L D δ η1
  | .whl c b => fun D δ η => ∃ n, whlLoop (rdT C G c) (rdSs b) n D δ η
  | .never => fun _ _ _ => False
  | .pass => fun D δ η => D.nx δ η
  | .brk => fun D δ η => D.bk δ η
  | .cont => fun D δ η => D.ct δ η
def rdSs : Ss → DS
  | .nil => fun D δ η => D.nx δ η
  | .cons s ss => fun D δ η => rdS s { D with nx := fun δ1 η1 => rdSs ss D δ1 η1 } δ η
end
end
end DL

set_option Elab.async false
set_option linter.all false
set_option maxRecDepth 100000
set_option maxHeartbeats 4000000
/-! DL2: readings are monotone in what is wanted. -/
namespace DL
open PySem PySem.Spec PyProof.Rows L2

def LeD (Q Q' : DK) : Prop := ∀ d η, Q d η → Q' d η
theorem opD_mono {o : BOp} {x y : D} {η : Sto} {Q Q' : DK} (q : LeD Q Q') (h : opD o x y η Q) : opD o x y η Q' := by
  cases o <;> cases x <;> cases y <;> simp only [opD] at h ⊢ <;> first
    | exact q _ _ h
    | exact ⟨h.1, q _ _ h.2⟩
    | exact ⟨h.1, h.2.1, q _ _ h.2.2⟩
    | (obtain ⟨xs, ys, h1, h2, h3, h4⟩ := h; exact ⟨xs, ys, h1, h2, h3, fun p hp => q _ _ (h4 p hp)⟩)
theorem cmpD_mono {o : COp} {x y : D} {η : Sto} {Q Q' : Bool → Sto → Prop} (q : ∀ b η, Q b η → Q' b η) (h : cmpD o x y η Q) : cmpD o x y η Q' := by
  cases o
  case eq =>
    simp only [cmpD] at h ⊢
    rcases h with ⟨i, j, e1, e2, h⟩ | ⟨i, j, e1, e2, h⟩ | ⟨p, r, h1, h2, h3, h4, h⟩
    · exact .inl ⟨i, j, e1, e2, q _ _ h⟩
    · exact .inr (.inl ⟨i, j, e1, e2, q _ _ h⟩)
    · exact .inr (.inr ⟨p, r, h1, h2, h3, h4, q _ _ h⟩)
  case ne =>
    simp only [cmpD] at h ⊢
    rcases h with ⟨i, j, e1, e2, h⟩ | ⟨i, j, e1, e2, h⟩ | ⟨p, r, h1, h2, h3, h4, h⟩
    · exact .inl ⟨i, j, e1, e2, q _ _ h⟩
    · exact .inr (.inl ⟨i, j, e1, e2, q _ _ h⟩)
    · exact .inr (.inr ⟨p, r, h1, h2, h3, h4, q _ _ h⟩)
  case inn =>
    simp only [cmpD] at h ⊢
    obtain ⟨xs, p, ps, h1, h2, h3, h4, h5, h6⟩ := h
    exact ⟨xs, p, ps, h1, h2, h3, h4, h5, q _ _ h6⟩
  case nin =>
    simp only [cmpD] at h ⊢
    obtain ⟨xs, p, ps, h1, h2, h3, h4, h5, h6⟩ := h
    exact ⟨xs, p, ps, h1, h2, h3, h4, h5, q _ _ h6⟩
  all_goals (cases x <;> cases y <;> simp only [cmpD] at h ⊢ <;> exact q _ _ h)
theorem idxD_mono {x y : D} {η : Sto} {Q Q' : DK} (q : LeD Q Q') (h : idxD x y η Q) : idxD x y η Q' := by
  cases x <;> cases y <;> simp only [idxD] at h ⊢ <;> first
    | (obtain ⟨d, h1, h2⟩ := h; exact ⟨d, h1, q _ _ h2⟩)
    | (obtain ⟨d, h1, h2, h3⟩ := h; exact ⟨d, h1, h2, q _ _ h3⟩)
    | (obtain ⟨d, e, h1, h2, h3⟩ := h; exact ⟨d, e, h1, h2, q _ _ h3⟩)
theorem slcD_mono {x : D} {l r : Option Int} {η : Sto} {Q Q' : DK} (q : LeD Q Q') (h : slcD x l r η Q) : slcD x l r η Q' := by
  cases x <;> simp only [slcD] at h ⊢ <;> first
    | exact q _ _ h
    | exact ⟨h.1, q _ _ h.2⟩
    | exact fun p hp => q _ _ (h p hp)
    | (obtain ⟨d, h1, h2⟩ := h; exact ⟨d, h1, fun p hp => q _ _ (h2 p hp)⟩)
theorem revD_mono {x : D} {η : Sto} {Q Q' : DK} (q : LeD Q Q') (h : revD x η Q) : revD x η Q' := by
  cases x <;> simp only [revD] at h ⊢ <;> first
    | exact q _ _ h
    | (obtain ⟨d, h1, h2⟩ := h; exact ⟨d, h1, fun p hp => q _ _ (h2 p hp)⟩)
theorem bltD_mono {f : BN} {xs : List D} {η : Sto} {Q Q' : DK} (q : LeD Q Q') (h : bltD f xs η Q) : bltD f xs η Q' := by
  unfold bltD at h ⊢
  split at h <;> first
    | exact h.elim
    | exact q _ _ h
    | exact ⟨h.1, q _ _ h.2⟩
    | (obtain ⟨d, h1, h2⟩ := h; exact ⟨d, h1, q _ _ h2⟩)
    | (obtain ⟨d, h1, h2⟩ := h; exact ⟨d, h1, fun p hp => q _ _ (h2 p hp)⟩)
    | (obtain ⟨xs, h1, h2⟩ := h; exact ⟨xs, h1, h2.imp (fun k => ⟨k.1, fun p hp => q _ _ (k.2 p hp)⟩) fun ⟨ps, k1, k2, k3, k4, k5⟩ => ⟨ps, k1, k2, k3, k4, fun p hp => q _ _ (k5 p hp)⟩⟩)
    | (obtain ⟨p, h1, h2, h3, h4⟩ := h; exact ⟨p, h1, h2, h3, q _ _ h4⟩)
theorem mthD_mono {m : MN} {x : D} {xs : List D} {η : Sto} {Q Q' : DK} (q : LeD Q Q') (h : mthD m x xs η Q) : mthD m x xs η Q' := by
  unfold mthD at h ⊢
  split at h <;> first
    | exact h.elim
    | (obtain ⟨d, h1, h2, h3⟩ := h; exact ⟨d, h1, h2, q _ _ h3⟩)
    | (obtain ⟨d, e, h1, h2, h3, h4⟩ := h; exact ⟨d, e, h1, h2, h3, q _ _ h4⟩)
    | (obtain ⟨d, e, h1, h2⟩ := h; exact ⟨d, e, h1, q _ _ h2⟩)
    | (obtain ⟨d, e, h1, h2, h3, h4, h5⟩ := h; exact ⟨d, e, h1, h2, h3, h4, q _ _ h5⟩)
theorem setD_mono {x i v : D} {η : Sto} {Q Q' : Sto → Prop} (q : ∀ η, Q η → Q' η) (h : setD x i v η Q) : setD x i v η Q' := by
  cases x <;> cases i <;> simp only [setD] at h ⊢
  obtain ⟨d, e, h1, h2, h3⟩ := h; exact ⟨d, e, h1, h2, q _ h3⟩
def LeI (Q Q' : List D → (Sto → Prop) → Sto → Prop) : Prop := ∀ L g η, Q L g η → Q' L g η
theorem itD_mono {x : D} {η : Sto} {Q Q' : List D → (Sto → Prop) → Sto → Prop} (q : LeI Q Q') (h : itD x η Q) : itD x η Q' := by
  cases x <;> simp only [itD] at h ⊢ <;> first
    | exact q _ _ _ h
    | (obtain ⟨d, h1, h2⟩ := h; exact ⟨d, h1, q _ _ _ h2⟩)
theorem rgD_mono {xs : List D} {η : Sto} {Q Q' : Int → Int → Sto → Prop} (q : ∀ a b η, Q a b η → Q' a b η) (h : rgD xs η Q) : rgD xs η Q' := by
  unfold rgD at h ⊢
  split at h <;> first
    | exact h.elim
    | exact ⟨h.1, q _ _ _ h.2⟩
    | exact ⟨h.1, h.2.1, q _ _ _ h.2.2⟩
theorem zipD_mono {xs : List D} {η : Sto} {Q Q' : List D → (Sto → Prop) → Sto → Prop} (q : LeI Q Q') (h : zipD xs η Q) : zipD xs η Q' := by
  unfold zipD at h ⊢
  split at h <;> first
    | exact h.elim
    | (obtain ⟨a, b, h1, h2, h3⟩ := h; exact ⟨a, b, h1, h2, q _ _ _ h3⟩)
    | (obtain ⟨a, b, c, h1, h2, h3, h4⟩ := h; exact ⟨a, b, c, h1, h2, h3, q _ _ _ h4⟩)

def MoE (t : DE) : Prop := ∀ δ η (Q Q' : DK), LeD Q Q' → t δ η Q → t δ η Q'
def MoT (t : DT) : Prop := ∀ δ η (Q Q' : Bool → Sto → Prop), (∀ b η, Q b η → Q' b η) → t δ η Q → t δ η Q'
def MoA (t : DA) : Prop := ∀ δ η (Q Q' : List D → Sto → Prop), (∀ b η, Q b η → Q' b η) → t δ η Q → t δ η Q'
def MoO (t : DO) : Prop := ∀ δ η (Q Q' : Option Int → Sto → Prop), (∀ b η, Q b η → Q' b η) → t δ η Q → t δ η Q'
def MoI (t : DI) : Prop := ∀ δ η (Q Q' : List D → (Sto → Prop) → Sto → Prop), LeI Q Q' → t δ η Q → t δ η Q'
def MoG (t : DG) : Prop := ∀ v δ η (Q Q' : DSt → Sto → Prop), (∀ b η, Q b η → Q' b η) → t v δ η Q → t v δ η Q'
def MoGs (t : DGs) : Prop := ∀ v δ η (Q Q' : DSt → Sto → Prop), (∀ b η, Q b η → Q' b η) → t v δ η Q → t v δ η Q'
structure LeN (A B : DEnds) : Prop where
  nx : ∀ δ η, A.nx δ η → B.nx δ η
  rt : LeD A.rt B.rt
  bk : ∀ δ η, A.bk δ η → B.bk δ η
  ct : ∀ δ η, A.ct δ η → B.ct δ η
def MoS (t : DS) : Prop := ∀ δ η (A B : DEnds), LeN A B → t A δ η → t B δ η
def MoC (C : Calls) : Prop := ∀ f xs η (Q Q' : DK), LeD Q Q' → C f xs η Q → C f xs η Q'

theorem ite_mono {c : Prop} [Decidable c] {A B A' B' : Prop} (h : if c then A else B) (a : A → A') (b : B → B') : if c then A' else B' := by
  by_cases hc : c
  · rw [if_pos hc] at h ⊢; exact a h
  · rw [if_neg hc] at h ⊢; exact b h
theorem lcLoop_mono {g : DG} {tt : DT} {te : DE} (hg : MoG g) (ht : MoT tt) (he : MoE te) {δ : DSt} {gd : Sto → Prop} {p : Addr} {Q Q' : Sto → Prop} (q : ∀ η, Q η → Q' η) :
    ∀ (L : List D) (η : Sto), lcLoop g tt te δ gd p L η Q → lcLoop g tt te δ gd p L η Q'
  | [], η, h => ⟨h.1, q _ h.2⟩
  | x :: xs, η, h => ⟨h.1, hg _ _ _ _ _ (fun δ2 η2 h2 => ht _ _ _ _ (fun b η3 h3 => ite_mono h3
      (fun h4 => he _ _ _ _ (fun d η4 ⟨acc, h5, h6, h7⟩ => ⟨acc, h5, h6, lcLoop_mono hg ht he q xs _ h7⟩) h4) fun h4 => lcLoop_mono hg ht he q xs _ h4) h2) h.2⟩
theorem forLoop_mono {g : DG} {tb : DS} {gd : Sto → Prop} (hg : MoG g) (hb : MoS tb) : ∀ (L : List D) (A B : DEnds) (δ : DSt) (η : Sto), LeN A B → forLoop g tb gd L A δ η → forLoop g tb gd L B δ η
  | [], A, B, δ, η, l, h => ⟨h.1, l.nx _ _ h.2⟩
  | x :: xs, A, B, δ, η, l, h => ⟨h.1, hg _ _ _ _ _ (fun δ2 η2 h2 => by
    refine hb _ _ _ _ ?_ h2
    exact ⟨fun δ η k => forLoop_mono hg hb xs A B δ η l k, l.rt, l.nx, fun δ η k => forLoop_mono hg hb xs A B δ η l k⟩) h.2⟩
theorem whlLoop_mono {c : DT} {tb : DS} (hc : MoT c) (hb : MoS tb) : ∀ (n : Nat) (A B : DEnds) (δ : DSt) (η : Sto), LeN A B → whlLoop c tb n A δ η → whlLoop c tb n B δ η
  | 0, _, _, _, _, _, h => h.elim
  | n + 1, A, B, δ, η, l, h => hc _ _ _ _ (fun b η1 h1 => ite_mono h1 (fun h2 => by
    refine hb _ _ _ _ ?_ h2
    exact ⟨fun δ η k => whlLoop_mono hc hb n A B δ η l k, l.rt, l.nx, fun δ η k => whlLoop_mono hc hb n A B δ η l k⟩) fun h2 => l.nx _ _ h2) h

section
variable {C : Calls} {G : Str → Option D} (hC : MoC C)
include hC
mutual
theorem mo_E : ∀ e : E, MoE (rdE C G e)
  | .var i => fun δ η Q Q' q h => by simp only [rdE] at h ⊢; obtain ⟨d, h1, h2⟩ := h; exact ⟨d, h1, q _ _ h2⟩
  | .int i => fun δ η Q Q' q h => by simp only [rdE] at h ⊢; exact q _ _ h
  | .str i => fun δ η Q Q' q h => by simp only [rdE] at h ⊢; exact q _ _ h
  | .bl i => fun δ η Q Q' q h => by simp only [rdE] at h ⊢; exact q _ _ h
  | .non => fun δ η Q Q' q h => by simp only [rdE] at h ⊢; exact q _ _ h
  | .glo x => fun δ η Q Q' q h => by simp only [rdE] at h ⊢; obtain ⟨d, h1, h2⟩ := h; exact ⟨d, h1, q _ _ h2⟩
  | .bin o a b => fun δ η Q Q' q h => by
    simp only [rdE] at h ⊢; exact mo_E a _ _ _ _ (fun x η1 h1 => mo_E b _ _ _ _ (fun y η2 h2 => opD_mono q h2) h1) h
  | .neg a => fun δ η Q Q' q h => by
    simp only [rdE] at h ⊢; exact mo_E a _ _ _ _ (fun x η1 ⟨i, e, h1⟩ => ⟨i, e, q _ _ h1⟩) h
  | .cmp o a b => fun δ η Q Q' q h => by
    simp only [rdE] at h ⊢; exact mo_E a _ _ _ _ (fun x η1 h1 => mo_E b _ _ _ _ (fun y η2 h2 => cmpD_mono (fun c η3 h3 => q _ _ h3) h2) h1) h
  | .chn o p a b c => fun δ η Q Q' q h => by
    simp only [rdE] at h ⊢; exact mo_E a _ _ _ _ (fun x η1 h1 => mo_E b _ _ _ _ (fun y η2 h2 => cmpD_mono (fun k η3 h3 => ite_mono h3 (fun h4 => mo_E c _ _ _ _ (fun z η4 h5 => cmpD_mono (fun k η5 h6 => q _ _ h6) h5) h4) fun h4 => q _ _ h4) h2) h1) h
  | .and a b => fun δ η Q Q' q h => by
    simp only [rdE] at h ⊢; exact mo_E a _ _ _ _ (fun x η1 ⟨c, e, h1⟩ => ⟨c, e, ite_mono h1 (fun h2 => mo_E b _ _ _ _ q h2) fun h2 => q _ _ h2⟩) h
  | .or a b => fun δ η Q Q' q h => by
    simp only [rdE] at h ⊢; exact mo_E a _ _ _ _ (fun x η1 ⟨c, e, h1⟩ => ⟨c, e, ite_mono h1 (fun h2 => q _ _ h2) fun h2 => mo_E b _ _ _ _ q h2⟩) h
  | .not a => fun δ η Q Q' q h => by
    simp only [rdE] at h ⊢; exact mo_E a _ _ _ _ (fun x η1 ⟨i, e, h1⟩ => ⟨i, e, q _ _ h1⟩) h
  | .ife c a b => fun δ η Q Q' q h => by
    simp only [rdE] at h ⊢; exact mo_T c _ _ _ _ (fun x η1 h1 => ite_mono h1 (fun h2 => mo_E a _ _ _ _ q h2) fun h2 => mo_E b _ _ _ _ q h2) h
  | .idx a b => fun δ η Q Q' q h => by
    simp only [rdE] at h ⊢; exact mo_E a _ _ _ _ (fun x η1 h1 => mo_E b _ _ _ _ (fun y η2 h2 => idxD_mono q h2) h1) h
  | .slc a lo hi => fun δ η Q Q' q h => by
    simp only [rdE] at h ⊢; exact mo_E a _ _ _ _ (fun x η1 h1 => mo_O lo _ _ _ _ (fun y η2 h2 => mo_O hi _ _ _ _ (fun z η3 h3 => slcD_mono q h3) h2) h1) h
  | .rev a => fun δ η Q Q' q h => by
    simp only [rdE] at h ⊢; exact mo_E a _ _ _ _ (fun x η1 h1 => revD_mono q h1) h
  | .tup es => fun δ η Q Q' q h => by
    simp only [rdE] at h ⊢; exact mo_A es _ _ _ _ (fun x η1 h1 => ⟨h1.1, q _ _ h1.2⟩) h
  | .lst es => fun δ η Q Q' q h => by
    simp only [rdE] at h ⊢; exact mo_A es _ _ _ _ (fun x η1 h1 => ⟨h1.1, fun p hp => q _ _ (h1.2 p hp)⟩) h
  | .dic => fun δ η Q Q' q h => by simp only [rdE] at h ⊢; exact fun p hp => q _ _ (h p hp)
  | .call f es => fun δ η Q Q' q h => by
    simp only [rdE] at h ⊢; exact mo_A es _ _ _ _ (fun x η1 h1 => hC _ _ _ _ _ q h1) h
  | .callk f ks es => fun δ η Q Q' q h => by
    simp only [rdE] at h ⊢; exact mo_A es _ _ _ _ (fun x η1 h1 => hC _ _ _ _ _ q h1) h
  | .isI a T => fun δ η Q Q' q h => by
    simp only [rdE] at h ⊢; exact mo_E a _ _ _ _ (fun x η1 ⟨i, e, h1⟩ => ⟨i, e, q _ _ h1⟩) h
  | .blt f es => fun δ η Q Q' q h => by
    simp only [rdE] at h ⊢; exact mo_A es _ _ _ _ (fun x η1 h1 => bltD_mono (fun d η2 ⟨η3, s, h3⟩ => ⟨η3, s, q _ _ h3⟩) h1) h
  | .rng tp es => fun δ η Q Q' q h => by
    simp only [rdE] at h ⊢; exact mo_A es _ _ _ _ (fun x η1 h1 => rgD_mono (fun a b η2 h2 => ⟨h2.1, ite_mono h2.2 (fun h3 => q _ _ h3) fun h3 p hp => q _ _ (h3 p hp)⟩) h1) h
  | .mth m a es => fun δ η Q Q' q h => by
    simp only [rdE] at h ⊢; exact mo_E a _ _ _ _ (fun x η1 h1 => ⟨h1.1, mo_A es _ _ _ _ (fun y η2 h2 => mthD_mono q h2) h1.2⟩) h
  | .lc elt t it ifs own => fun δ η Q Q' q h => by
    simp only [rdE] at h ⊢; exact mo_I it _ _ _ _ (fun L gd η1 h1 p hp => lcLoop_mono (mo_G t) (mo_Ts ifs) (mo_E elt) (fun η2 h2 => q _ _ h2) _ _ (h1 p hp)) h
theorem mo_T : ∀ e : E, MoT (rdT C G e)
  | .and a b => fun δ η Q Q' q h => by
    simp only [rdT] at h ⊢; exact mo_T a _ _ _ _ (fun x η1 h1 => ite_mono h1 (fun h2 => mo_T b _ _ _ _ q h2) fun h2 => q _ _ h2) h
  | .or a b => fun δ η Q Q' q h => by
    simp only [rdT] at h ⊢; exact mo_T a _ _ _ _ (fun x η1 h1 => ite_mono h1 (fun h2 => q _ _ h2) fun h2 => mo_T b _ _ _ _ q h2) h
  | .not a => fun δ η Q Q' q h => by
    simp only [rdT] at h ⊢; exact mo_T a _ _ _ _ (fun x η1 h1 => q _ _ h1) h
  | .cmp o a b => fun δ η Q Q' q h => by
    simp only [rdT] at h ⊢; exact mo_E a _ _ _ _ (fun x η1 h1 => mo_E b _ _ _ _ (fun y η2 h2 => cmpD_mono q h2) h1) h
  | .chn o p a b c => fun δ η Q Q' q h => by
    simp only [rdT] at h ⊢; exact mo_E a _ _ _ _ (fun x η1 h1 => mo_E b _ _ _ _ (fun y η2 h2 => cmpD_mono (fun k η3 h3 => ite_mono h3 (fun h4 => mo_E c _ _ _ _ (fun z η4 h5 => cmpD_mono q h5) h4) fun h4 => q _ _ h4) h2) h1) h
  | .bl b => fun δ η Q Q' q h => by simp only [rdT] at h ⊢; exact q _ _ h
  | .var i => fun δ η Q Q' q h => by simp only [rdT] at h ⊢; obtain ⟨d, h1, h2⟩ := h; exact ⟨d, h1, q _ _ h2⟩
  | .call f es => fun δ η Q Q' q h => by
    simp only [rdT] at h ⊢; exact mo_A es _ _ _ _ (fun x η1 h1 => hC _ _ _ _ _ (fun d η2 ⟨b, e, h2⟩ => ⟨b, e, q _ _ h2⟩) h1) h
  | .isI a T => fun δ η Q Q' q h => by
    simp only [rdT] at h ⊢; exact mo_E a _ _ _ _ (fun x η1 ⟨i, e, h1⟩ => ⟨i, e, q _ _ h1⟩) h
  | .blt f es => fun δ η Q Q' q h => by
    simp only [rdT] at h ⊢; exact mo_A es _ _ _ _ (fun x η1 h1 => bltD_mono (fun d η2 ⟨b, η3, e, s, h3⟩ => ⟨b, η3, e, s, q _ _ h3⟩) h1) h
  | .int _ | .str _ | .non | .glo _ | .bin _ _ _ | .neg _ | .ife _ _ _ | .idx _ _ | .slc _ _ _ | .rev _ | .tup _ | .lst _ | .dic | .callk _ _ _ | .rng _ _ | .mth _ _ _ | .lc _ _ _ _ _ => fun δ η Q Q' q h => by simp only [rdT] at h
theorem mo_A : ∀ es : Es, MoA (rdA C G es)
  | .nil => fun δ η Q Q' q h => by simp only [rdA] at h ⊢; exact q _ _ h
  | .cons e es => fun δ η Q Q' q h => by
    simp only [rdA] at h ⊢; exact mo_E e _ _ _ _ (fun x η1 h1 => mo_A es _ _ _ _ (fun y η2 h2 => q _ _ h2) h1) h
  | .star e es => fun δ η Q Q' q h => by
    simp only [rdA] at h ⊢; exact mo_E e _ _ _ _ (fun x η1 ⟨ys, h0, h1⟩ => ⟨ys, h0, mo_A es _ _ _ _ (fun y η2 h2 => q _ _ h2) h1⟩) h
theorem mo_Ts : ∀ es : Es, MoT (rdTs C G es)
  | .nil => fun δ η Q Q' q h => by simp only [rdTs] at h ⊢; exact q _ _ h
  | .cons e .nil => fun δ η Q Q' q h => by simp only [rdTs] at h ⊢; exact mo_T e _ _ _ _ q h
  | .cons e (.cons _ _) | .cons e (.star _ _) | .star _ _ => fun δ η Q Q' q h => by simp only [rdTs] at h
theorem mo_O : ∀ o : Oe, MoO (rdO C G o)
  | .no => fun δ η Q Q' q h => by simp only [rdO] at h ⊢; exact q _ _ h
  | .yes e => fun δ η Q Q' q h => by simp only [rdO] at h ⊢; exact mo_E e _ _ _ _ (fun x η1 ⟨i, e, h1⟩ => ⟨i, e, q _ _ h1⟩) h
theorem mo_I : ∀ i : I, MoI (rdI C G i)
  | .of e => fun δ η Q Q' q h => by simp only [rdI] at h ⊢; exact mo_E e _ _ _ _ (fun x η1 h1 => itD_mono q h1) h
  | .rng es => fun δ η Q Q' q h => by simp only [rdI] at h ⊢; exact mo_A es _ _ _ _ (fun x η1 h1 => rgD_mono (fun a b η2 h2 => q _ _ _ h2) h1) h
  | .enm (.of e) => fun δ η Q Q' q h => by simp only [rdI] at h ⊢; exact mo_E e _ _ _ _ (fun x η1 h1 => itD_mono (fun L g η2 h2 => q _ _ _ h2) h1) h
  | .enm (.zip es) => fun δ η Q Q' q h => by simp only [rdI] at h ⊢; exact mo_A es _ _ _ _ (fun x η1 h1 => zipD_mono (fun L g η2 h2 => q _ _ _ h2) h1) h
  | .enm (.rng _) | .enm (.enm _) => fun δ η Q Q' q h => by simp only [rdI] at h
  | .zip es => fun δ η Q Q' q h => by simp only [rdI] at h ⊢; exact mo_A es _ _ _ _ (fun x η1 h1 => zipD_mono q h1) h
theorem mo_G : ∀ t : Tg, MoG (rdG C G t)
  | .name i => fun v δ η Q Q' q h => by simp only [rdG] at h ⊢; exact q _ _ h
  | .tup ts => fun v δ η Q Q' q h => by simp only [rdG] at h ⊢; obtain ⟨xs, e, el, h⟩ := h; exact ⟨xs, e, el, mo_Gs ts _ _ _ _ _ q h⟩
  | .sub a i => fun v δ η Q Q' q h => by
    simp only [rdG] at h ⊢; exact mo_E a _ _ _ _ (fun x η1 h1 => mo_E i _ _ _ _ (fun y η2 h2 => setD_mono (fun η3 h3 => q _ _ h3) h2) h1) h
theorem mo_Gs : ∀ t : Tgs, MoGs (rdGs C G t)
  | .nil => fun v δ η Q Q' q h => by simp only [rdGs] at h ⊢; exact ⟨h.1, q _ _ h.2⟩
  | .cons t ts => fun v δ η Q Q' q h => by
    simp only [rdGs] at h ⊢; obtain ⟨a, r, e, h⟩ := h; exact ⟨a, r, e, mo_G t _ _ _ _ _ (fun δ1 η1 h1 => mo_Gs ts _ _ _ _ _ q h1) h⟩
end
mutual
theorem mo_S : ∀ s : S, MoS (rdS C G s)
  | .asg t e => fun δ η A B l h => by simp only [rdS] at h ⊢; exact mo_E hC e _ _ _ _ (fun x η1 h1 => mo_G hC t _ _ _ _ _ l.nx h1) h
  | .par i j a b => fun δ η A B l h => by simp only [rdS] at h ⊢; exact mo_E hC a _ _ _ _ (fun x η1 h1 => mo_E hC b _ _ _ _ (fun y η2 h2 => l.nx _ _ h2) h1) h
  | .ex e => fun δ η A B l h => by simp only [rdS] at h ⊢; exact mo_E hC e _ _ _ _ (fun x η1 h1 => l.nx _ _ h1) h
  | .ret e => fun δ η A B l h => by simp only [rdS] at h ⊢; exact mo_E hC e _ _ _ _ l.rt h
  | .retN => fun δ η A B l h => by simp only [rdS] at h ⊢; exact l.rt _ _ h
  | .ife c a b => fun δ η A B l h => by
    simp only [rdS] at h ⊢; exact mo_T hC c _ _ _ _ (fun x η1 h1 => ite_mono h1 (fun h2 => mo_Ss a _ _ _ _ l h2) fun h2 => mo_Ss b _ _ _ _ l h2) h
  | .for_ t i b => fun δ η A B l h => by
    simp only [rdS] at h ⊢; exact mo_I hC i _ _ _ _ (fun L gd η1 h1 => forLoop_mono (mo_G hC t) (mo_Ss b) _ _ _ _ _ l h1) h
  | .whl c b => fun δ η A B l h => by
    simp only [rdS] at h ⊢; obtain ⟨n, h⟩ := h; exact ⟨n, whlLoop_mono (mo_T hC c) (mo_Ss b) _ _ _ _ _ l h⟩
  | .never => fun δ η A B l h => by simp only [rdS] at h
  | .pass => fun δ η A B l h => by simp only [rdS] at h ⊢; exact l.nx _ _ h
  | .brk => fun δ η A B l h => by simp only [rdS] at h ⊢; exact l.bk _ _ h
  | .cont => fun δ η A B l h => by simp only [rdS] at h ⊢; exact l.ct _ _ h
theorem mo_Ss : ∀ s : Ss, MoS (rdSs C G s)
  | .nil => fun δ η A B l h => by simp only [rdSs] at h ⊢; exact l.nx _ _ h
  | .cons s ss => fun δ η A B l h => by
    simp only [rdSs] at h ⊢
    refine mo_S s _ _ _ _ ?_ h
    exact ⟨fun δ1 η1 h1 => mo_Ss ss _ _ _ _ l h1, l.rt, l.bk, l.ct⟩
end
end
end DL

set_option Elab.async false
set_option linter.all false
set_option maxRecDepth 100000
set_option maxHeartbeats 4000000
/-! DL3: operations on data are what the machine does on values. -/
namespace DL
open PySem PySem.Spec PyProof.Rows L2

def endE (K : PySem.W.Frag) (H : Hp) (Q : VK) : DK := fun d η => ∀ u H', TpM K H H' → Abs K η H' → IsD K H' u d → Q u H'
def endB (K : PySem.W.Frag) (H : Hp) (Q : VK) : Bool → Sto → Prop := fun b η => ∀ H', TpM K H H' → Abs K η H' → Q (.bl b) H'
def up2 (K : PySem.W.Frag) (p : D → D → Sto → DK → Prop) : R2 := fun v w H Q => ∃ x y η, IsD K H v x ∧ IsD K H w y ∧ Abs K η H ∧ p x y η (endE K H Q)
def up2b (K : PySem.W.Frag) (p : D → D → Sto → (Bool → Sto → Prop) → Prop) : R2 := fun v w H Q => ∃ x y η, IsD K H v x ∧ IsD K H w y ∧ Abs K η H ∧ p x y η (endB K H Q)
section
variable {K : PySem.W.Frag} {H : Hp} {Q : VK} {η : Sto} {v : V} {d : D}
theorem endE.here (h : endE K H Q d η) (a : Abs K η H) (i : IsD K H v d) : Q v H := h v H (TpM.refl K H) a i
theorem endE.hint {i : Int} (h : endE K H Q (.int i) η) (a : Abs K η H) : Q (.int i) H := h.here a (.int i)
theorem endE.hbl {b : Bool} (h : endE K H Q (.bl b) η) (a : Abs K η H) : Q (.bl b) H := h.here a (.bl b)
theorem endE.hstr {b : Str} (h : endE K H Q (.str b) η) (a : Abs K η H) : Q (.str b) H := h.here a (.str b)
/-- a new tuple -/
theorem endE.ntup {ds : List D} {vs : List V} {p : Addr} (h : endE K H Q (.tup ds) η) (a : Abs K η H) (i : IsDs K H vs ds) (hp : H p = none) : Q (.ref p) (upd H p (.tup vs)) :=
  have t : TpM K H (L2.upd H p (.tup vs)) := TpM.new hp
  h _ _ t (a.new (a.free hp) t) (.tup (SqT.of upd_same) (i.mono t))
/-- a new list -/
theorem endE.nlst {ds : List D} {vs : List V} {p : Addr} (h : ∀ p, η p = none → endE K H Q (.ref p) (put η p (.lst ds))) (a : Abs K η H) (i : IsDs K H vs ds) (hp : H p = none) : Q (.ref p) (upd H p (.lst vs)) :=
  have t : TpM K H (L2.upd H p (.lst vs)) := TpM.new hp
  h p (a.free hp) _ _ t (a.put t ⟨vs, upd_same, i.mono t⟩) (.ref p)
theorem lst_of (a : Abs K η H) {p : Addr} {ds : List D} (e : η p = some (.lst ds)) : ∃ vs, H p = some (.lst vs) ∧ IsDs K H vs ds := a p _ e
end
section
variable {X : Cx}
theorem OpR.imp {f : Value → Value → Sem Value} {r r' : R2} (h : OpR X f r) (k : ∀ x y H Q, r' x y H Q → r x y H Q) : OpR X f r' := fun pins s σ H x y v u Q I rx ry q => h pins s σ H x y v u Q I rx ry (k _ _ _ _ q)
theorem op_mulO : OpR X (binaryOp .Mult) (rI IntMulOk fun i j => .int (i * j)) := opI fun _ _ _ _ _ _ _ hc q => mul_int q hc
def CPowW (i j : Int) : Prop := 0 ≤ j ∧ (Builtin.Int.intBits i : Int) * j ≤ 2 ^ 27
theorem op_powW : OpR X (binaryOp .Pow) (rI CPowW fun i j => .int (i ^ j.toNat)) := opI fun _ _ _ _ _ _ _ hc q => pow_int hc.1 hc.2 q
def BOp.o : BOp → Operator
  | .add => .Add | .sub => .Sub | .mul => .Mult | .fdiv => .FloorDiv | .mod => .Mod | .pow => .Pow
theorem op_D (o : BOp) : OpR X (binaryOp o.o) (up2 X.K (opD o)) := by
  intro pins s σ H x y v u Q I rx ry h
  obtain ⟨a, b, η, ia, ib, ab, h⟩ := h
  cases o
  case add =>
    cases ia <;> cases ib <;> simp only [opD] at h
    case int.int i j => exact op_add pins s σ H _ _ v u Q I rx ry ⟨i, j, rfl, rfl, h.hint ab⟩
    case str.str i j => exact op_add_str pins s σ H _ _ v u Q I rx ry ⟨i, j, rfl, rfl, h.1, h.2.hstr ab⟩
    case tup.tup a vs ds hs ht b us es hu hv =>
      refine op_catA pins s σ H _ _ v u Q I rx ry ⟨a, b, vs, us, rfl, rfl, hs, hu, by rw [ht.length, hv.length]; exact h.1, fun e => ?_, fun _ e => ?_, fun _ _ p hp => ?_⟩
      · subst e; cases ht; exact h.2.here ab (.tup hu hv)
      · subst e; cases hv; rw [List.append_nil] at h; exact h.2.here ab (.tup hs ht)
      · exact h.2.ntup ab (ht.append hv) hp
    case ref.ref a b =>
      obtain ⟨xs, ys, e1, e2, hl, q⟩ := h
      obtain ⟨vs, h1, i1⟩ := lst_of ab e1
      obtain ⟨us, h2, i2⟩ := lst_of ab e2
      exact op_cat pins s σ H _ _ v u Q I rx ry ⟨a, b, vs, us, rfl, rfl, h1, h2, by rw [i1.length, i2.length]; exact hl, fun p hp => endE.nlst q ab (i1.append i2) hp⟩
  case sub =>
    cases ia <;> cases ib <;> simp only [opD] at h
    case int.int i j => exact op_sub pins s σ H _ _ v u Q I rx ry ⟨i, j, rfl, rfl, h.hint ab⟩
  case mul =>
    cases ia <;> cases ib <;> simp only [opD] at h
    case int.int i j => exact op_mulO pins s σ H _ _ v u Q I rx ry ⟨i, j, rfl, rfl, h.1, h.2.hint ab⟩
  case fdiv =>
    cases ia <;> cases ib <;> simp only [opD] at h
    case int.int i j => exact op_fdivW pins s σ H _ _ v u Q I rx ry ⟨i, j, rfl, rfl, h.1, h.2.hint ab⟩
  case mod =>
    cases ia <;> cases ib <;> simp only [opD] at h
    case int.int i j => exact op_mod pins s σ H _ _ v u Q I rx ry ⟨i, j, rfl, rfl, h.1, h.2.hint ab⟩
  case pow =>
    cases ia <;> cases ib <;> simp only [opD] at h
    case int.int i j => exact op_powW pins s σ H _ _ v u Q I rx ry ⟨i, j, rfl, rfl, ⟨h.1, h.2.1⟩, h.2.2.hint ab⟩
/-! ### data that is read -/
variable {pins : List (Addr × Obj)} {σ : L2.St} {H : Hp} {s : Shared} {η : Sto}
mutual
theorem Pd.reads (I : Inv X pins σ H s) (ab : Abs X.K η H) : ∀ {d : D} {p : PyData} {v : V} {u : Value}, Pd η d p → IsD X.K H v d → RelV v u → ∃ as, Reads s.heap u p as ∧ (noLst p = true → sysModules ∉ as)
  | _, _, _, _, .non, i, r => by
    cases i; cases r
    exact ⟨_, Reads.none, fun _ => by simp⟩
  | _, _, _, _, .bl b, i, r => by
    cases i; cases r
    exact ⟨_, Reads.bool b, fun _ => by simp⟩
  | _, _, _, _, .int j, i, r => by
    cases i; obtain ⟨t, rfl⟩ := r
    exact ⟨_, Reads.int j t, fun _ => by simp⟩
  | _, _, _, _, .str j, i, r => by
    cases i; obtain ⟨t, rfl⟩ := r
    exact ⟨_, Reads.str j t, fun _ => by simp⟩
  | _, _, _, _, .tup k, i, r => by
    cases i with
    | tup hs ht =>
      cases r
      obtain ⟨its, rv, ⟨o, ho, hc, n, hd⟩, _⟩ := I.tuple hs
      obtain ⟨as, q, z⟩ := Pds.reads I ab k ht rv
      exact ⟨_, Reads.tuple ho hc hd q, fun e => z (by simpa only [noLst] using e)⟩
  | _, _, _, _, .rl k, i, r => by
    cases i with
    | rl hs ht =>
      cases r
      obtain ⟨its, rv, ⟨o, n, ho, hc, hdn, hd⟩, _⟩ := I.list hs.sq
      obtain ⟨as, q, z⟩ := Pds.reads I ab k ht rv
      exact ⟨_, Reads.list ho hc hd q, fun e => by simp [noLst] at e⟩
  | _, _, _, _, .lst e k, i, r => by
    cases i
    cases r
    obtain ⟨vs, e1, ht⟩ := lst_of ab e
    obtain ⟨its, rv, ⟨o, n, ho, hc, hdn, hd⟩, _⟩ := I.list (SqL.of e1)
    obtain ⟨as, q, z⟩ := Pds.reads I ab k ht rv
    exact ⟨_, Reads.list ho hc hd q, fun e => by simp [noLst] at e⟩
  | _, _, _, _, .dic e, i, r => by
    cases i
    cases r
    obtain ⟨us, e1, k1, k2⟩ := ab _ _ e
    have hu : us = [] := by simpa using k1
    subst hu
    obtain ⟨_, hsys, ws, kv, o, es, ep, e2, ex, hdt, hes⟩ := I.hok _ _ e1
    cases kv
    have hz : es.toList = [] := by
      obtain ⟨_, hp, _⟩ := hes
      cases q : es.toList with
      | nil => rfl
      | cons a r => rw [q] at hp; cases hp
    refine ⟨_, Reads.dict (as := []) (bs := []) e2 ex.1 hdt (by rw [hz]; exact ReadsAll.nil) (by rw [hz]; exact ReadsAll.nil), fun _ m => ?_⟩
    simp only [List.append_nil, List.mem_cons, List.not_mem_nil, or_false] at m
    rw [← m] at hsys
    simp at hsys
theorem Pds.reads (I : Inv X pins σ H s) (ab : Abs X.K η H) : ∀ {ds : List D} {ps : List PyData} {vs : List V} {us : List Value}, Pds η ds ps → IsDs X.K H vs ds → Vals vs us → ∃ as, ReadsAll s.heap us ps as ∧ (noLsts ps = true → sysModules ∉ as)
  | _, _, _, _, .nil, i, r => by
    cases i; cases r
    exact ⟨_, ReadsAll.nil, fun _ => by simp⟩
  | _, _, _, _, .cons k ks, i, r => by
    cases i with
    | cons i is =>
      cases r with
      | cons r rs =>
        obtain ⟨as, q1, z1⟩ := Pd.reads I ab k i r
        obtain ⟨bs, q2, z2⟩ := Pds.reads I ab ks is rs
        exact ⟨_, ReadsAll.cons q1 q2, fun z m => by
          simp only [noLsts, Bool.and_eq_true] at z
          rcases List.mem_append.mp m with m | m
          · exact z1 z.1 m
          · exact z2 z.2 m⟩
end
/-- what is read off as a sequence: a list's items or a tuple's -/
theorem seq_of {K : PySem.W.Frag} (ab : Abs K η H) {d : D} {xs : List D} {v : V} (i : IsD K H v d) (h : seqD d η xs) : ∃ a vs, v = .ref a ∧ (SqL K H a vs ∨ SqT K H a vs) ∧ IsDs K H vs xs := by
  cases i <;> simp only [seqD] at h
  case tup a vs ds hs ht => subst h; exact ⟨a, vs, rfl, .inr hs, ht⟩
  case rl a vs ds hs ht => subst h; exact ⟨a, vs, rfl, .inl hs.sq, ht⟩
  case ref a =>
    obtain ⟨vs, e1, ht⟩ := lst_of ab h
    exact ⟨a, vs, rfl, .inl (SqL.of e1), ht⟩
theorem lstq_of {K : PySem.W.Frag} (ab : Abs K η H) {d : D} {xs : List D} {v : V} (i : IsD K H v d) (h : lstD d η xs) : ∃ a vs, v = .ref a ∧ SqL K H a vs ∧ IsDs K H vs xs := by
  cases i <;> simp only [lstD] at h
  case rl a vs ds hs ht => subst h; exact ⟨a, vs, rfl, hs.sq, ht⟩
  case ref a =>
    obtain ⟨vs, e1, ht⟩ := lst_of ab h
    exact ⟨a, vs, rfl, SqL.of e1, ht⟩
open Classical in
/-- whether what a value reads as equals p -/
noncomputable def eqR (h : Heap) (p : PyData) (u : Value) : Bool := if (∃ q as, Reads h u q as ∧ PyData.eqv q p = true) then true else false
theorem eqR_of {h : Heap} {p q : PyData} {u : Value} {as : List Addr} (r : Reads h u q as) (hs : SeqAt.shaped q = true) : eqR h p u = PyData.eqv q p := by
  unfold eqR
  cases e : PyData.eqv q p with
  | true => exact if_pos ⟨q, as, r, e⟩
  | false =>
    refine if_neg fun ⟨q', as', r', e'⟩ => ?_
    have := SeqAt.Reads.unique q q' u as as' (SeqAt.canLay_of_shaped hs) r r'
    rw [← this, e] at e'
    cases e'
theorem eqR_any {h : Heap} {p : PyData} : ∀ {us : List Value} {ps : List PyData} {as : List Addr}, ReadsAll h us ps as → (∀ q ∈ ps, SeqAt.shaped q = true) → us.any (eqR h p) = ps.any (fun q => PyData.eqv q p) ∧ ∀ u ∈ us, ∃ q ∈ ps, ∃ as, Reads h u q as
  | _, _, _, .nil, _ => ⟨rfl, fun u hu => by cases hu⟩
  | _, _, _, .cons r rs, hs => by
    obtain ⟨k1, k2⟩ := eqR_any rs fun q hq => hs q (List.mem_cons_of_mem _ hq)
    refine ⟨by rw [List.any_cons, List.any_cons, k1, eqR_of r (hs _ List.mem_cons_self)], fun u hu => ?_⟩
    rcases List.mem_cons.mp hu with rfl | hu
    · exact ⟨_, List.mem_cons_self, _, r⟩
    · obtain ⟨q, hq, k⟩ := k2 u hu
      exact ⟨q, List.mem_cons_of_mem _ hq, k⟩
theorem eqR_at {A : Around} {p : PyData} {v : Value} {bs : List Addr} {us : List Value} {ps : List PyData} {as : List Addr} (r : ReadsAll s.heap us ps as) (hs : ∀ q ∈ ps, SeqAt.shaped q = true) (rp : Reads s.heap v p bs) (hp : SeqAt.shaped p = true) (hu : A.units + 64 < cLine) : ∀ u ∈ us, SeqAt.EqAt A s u v (eqR s.heap p u) := fun u m => by
  obtain ⟨q, hq, as, rq⟩ := (eqR_any (p := p) r hs).2 u m
  rw [eqR_of rq (hs q hq)]
  exact SeqAt.eqAt_reads q p A s u v as bs rq rp (SeqAt.canLay_of_shaped (hs q hq)) (SeqAt.canLay_of_shaped hp) (SeqAt.room_of_shaped (hs q hq) hu)
/-! ### comparisons -/
def COp.o : COp → CmpOp
  | .lt => .Lt | .le => .LtE | .gt => .Gt | .ge => .GtE | .eq => .Eq | .ne => .NotEq | .isn => .Is | .notn => .IsNot | .inn => .In | .nin => .NotIn
theorem endB.here {K : PySem.W.Frag} {Q : VK} {b : Bool} (h : endB K H Q b η) (a : Abs K η H) : Q (.bl b) H := h H (TpM.refl K H) a
theorem IsD.nonIff {K : PySem.W.Frag} {v : V} {d : D} (i : IsD K H v d) : decide (v = .non) = isNon d := by
  cases i <;> rfl
theorem cmp_D (o : COp) (hu : X.A.units + 100 < cLine) : OpR X (compareOp o.o) (up2b X.K (cmpD o)) := by
  intro pins s σ H x y v u Q I rx ry h
  obtain ⟨a, b, η, ia, ib, ab, h⟩ := h
  cases o
  case lt =>
    cases ia <;> cases ib <;> simp only [cmpD] at h
    case int.int i j => exact op_lt pins s σ H _ _ v u Q I rx ry ⟨i, j, rfl, rfl, h.here ab⟩
  case le =>
    cases ia <;> cases ib <;> simp only [cmpD] at h
    case int.int i j => exact op_le pins s σ H _ _ v u Q I rx ry ⟨i, j, rfl, rfl, h.here ab⟩
  case gt =>
    cases ia <;> cases ib <;> simp only [cmpD] at h
    case int.int i j => exact op_gt pins s σ H _ _ v u Q I rx ry ⟨i, j, rfl, rfl, h.here ab⟩
  case ge =>
    cases ia <;> cases ib <;> simp only [cmpD] at h
    case int.int i j => exact op_ge pins s σ H _ _ v u Q I rx ry ⟨i, j, rfl, rfl, h.here ab⟩
  case eq =>
    simp only [cmpD] at h
    rcases h with ⟨i, j, e1, e2, h⟩ | ⟨i, j, e1, e2, h⟩ | ⟨p, r, h1, h2, h3, h4, h⟩
    · subst e1 e2
      cases ia; cases ib
      obtain ⟨t, rfl⟩ := rx
      obtain ⟨t', rfl⟩ := ry
      exact eq_int ⟨.bl _, H, I, rfl, by rw [Bool.beq_eq_decide_eq]; exact h.here ab⟩
    · subst e1 e2
      cases ia; cases ib
      refine op_eq pins s σ H _ _ v u Q I rx ry ⟨rfl, ?_⟩
      have e : decide (V.str i = V.str j) = decide (i = j) := by by_cases q : i = j <;> simp [q]
      rw [e]
      exact h.here ab
    · obtain ⟨as, r1, _⟩ := Pd.reads I ab h1 ia rx
      obtain ⟨bs, r2, _⟩ := Pd.reads I ab h2 ib ry
      exact SeqAt.compareEq_shaped r1 r2 h3 h4 (by omega) ⟨.bl _, H, I, rfl, h.here ab⟩
  case ne =>
    simp only [cmpD] at h
    rcases h with ⟨i, j, e1, e2, h⟩ | ⟨i, j, e1, e2, h⟩ | ⟨p, r, h1, h2, h3, h4, h⟩
    · subst e1 e2
      cases ia; cases ib
      obtain ⟨t, rfl⟩ := rx
      obtain ⟨t', rfl⟩ := ry
      exact ne_int ⟨.bl _, H, I, rfl, by rw [bne, Bool.beq_eq_decide_eq]; exact h.here ab⟩
    · subst e1 e2
      cases ia; cases ib
      refine op_ne pins s σ H _ _ v u Q I rx ry ⟨rfl, ?_⟩
      have e : decide (V.str i = V.str j) = decide (i = j) := by by_cases q : i = j <;> simp [q]
      rw [e]
      exact h.here ab
    · obtain ⟨as, r1, _⟩ := Pd.reads I ab h1 ia rx
      obtain ⟨bs, r2, _⟩ := Pd.reads I ab h2 ib ry
      exact SeqAt.compareNe_shaped r1 r2 h3 h4 (by omega) ⟨.bl _, H, I, rfl, h.here ab⟩
  case isn =>
    cases ib <;> simp only [cmpD] at h
    refine op_isN pins s σ H _ _ v u Q I rx ry ⟨rfl, ?_⟩
    rw [ia.nonIff]
    exact h.here ab
  case notn =>
    cases ib <;> simp only [cmpD] at h
    refine op_notN pins s σ H _ _ v u Q I rx ry ⟨rfl, ?_⟩
    rw [ia.nonIff]
    exact h.here ab
  case inn =>
    simp only [cmpD] at h
    obtain ⟨xs, p, ps, hq, hp, hps, h1, h2, q⟩ := h
    obtain ⟨as, rp, _⟩ := Pd.reads I ab hp ia rx
    obtain ⟨l, vs, rfl, sq, is⟩ := seq_of ab ib hq
    cases ry
    rcases sq with sq | sq
    · obtain ⟨its, rv, pl, hz⟩ := I.list sq
      obtain ⟨bs, rd, _⟩ := Pds.reads I ab hps is rv
      refine SeqAt.in_listAt (eqR s.heap p) pl.isList (fun w hw => eqR_at rd h2 rp h1 (show X.A.units + 1 + 64 < cLine by omega) w (by simpa using hw)) ⟨.bl _, H, I, rfl, ?_⟩
      rw [show its.toArray.any (eqR s.heap p) = its.any (eqR s.heap p) by simp, (eqR_any rd h2).1]
      exact q.here ab
    · obtain ⟨its, rv, pl, hz⟩ := I.tuple sq
      obtain ⟨bs, rd, _⟩ := Pds.reads I ab hps is rv
      refine SeqAt.in_tupleAt (eqR s.heap p) pl (fun w hw => eqR_at rd h2 rp h1 (show X.A.units + 1 + 64 < cLine by omega) w (by simpa using hw)) ⟨.bl _, H, I, rfl, ?_⟩
      rw [show its.toArray.any (eqR s.heap p) = its.any (eqR s.heap p) by simp, (eqR_any rd h2).1]
      exact q.here ab
  case nin =>
    simp only [cmpD] at h
    obtain ⟨xs, p, ps, hq, hp, hps, h1, h2, q⟩ := h
    obtain ⟨as, rp, _⟩ := Pd.reads I ab hp ia rx
    obtain ⟨l, vs, rfl, sq, is⟩ := seq_of ab ib hq
    cases ry
    rcases sq with sq | sq
    · obtain ⟨its, rv, pl, hz⟩ := I.list sq
      obtain ⟨bs, rd, _⟩ := Pds.reads I ab hps is rv
      refine SeqAt.notIn_listAt (eqR s.heap p) pl.isList (fun w hw => eqR_at rd h2 rp h1 (show X.A.units + 1 + 64 < cLine by omega) w (by simpa using hw)) ⟨.bl _, H, I, rfl, ?_⟩
      rw [show its.toArray.any (eqR s.heap p) = its.any (eqR s.heap p) by simp, (eqR_any rd h2).1]
      exact q.here ab
    · obtain ⟨its, rv, pl, hz⟩ := I.tuple sq
      obtain ⟨bs, rd, _⟩ := Pds.reads I ab hps is rv
      refine SeqAt.notIn_tupleAt (eqR s.heap p) pl (fun w hw => eqR_at rd h2 rp h1 (show X.A.units + 1 + 64 < cLine by omega) w (by simpa using hw)) ⟨.bl _, H, I, rfl, ?_⟩
      rw [show its.toArray.any (eqR s.heap p) = its.any (eqR s.heap p) by simp, (eqR_any rd h2).1]
      exact q.here ab
  all_goals (cases ia <;> cases ib <;> simp only [cmpD] at h)
/-! ### subscripts -/
theorem IsDs.atI {K : PySem.W.Frag} {vs : List V} {ds : List D} {i : Int} {d : D} (h : IsDs K H vs ds) (e : L2.atI ds i = some d) : ∃ v, L2.atI vs i = some v ∧ IsD K H v d := by
  unfold L2.atI at e ⊢
  rw [h.length]
  cases q : ixN ds.length i with
  | none => rw [q] at e; cases e
  | some j =>
    rw [q] at e
    exact h.get e
theorem ix_D {value slice : Expr} {x y : V} {v u : Value} {Q : VK} (I : Inv X pins σ H s) (rx : RelV x v) (ry : RelV y u) (h : up2 X.K idxD x y H Q) (hs : subscripted slice false v u = operate [v, u] (getItem v u)) :
    wpAny (model X.prog X.w) X.A (subscriptTail value slice v u) (EP X pins σ Q) X.xe s := by
  obtain ⟨a, b, η, ia, ib, ab, h⟩ := h
  cases ia <;> cases ib <;> simp only [idxD] at h
  case str.int z i =>
    obtain ⟨c, h1, h2, q⟩ := h
    exact ix_str value slice pins s σ H _ _ v u Q I rx ry ⟨z, i, c, rfl, rfl, h1, h2, q.hstr ab⟩ hs
  case tup.int a vs ds hq ht i =>
    obtain ⟨d, h1, q⟩ := h
    obtain ⟨w, h2, iw⟩ := ht.atI h1
    exact ix_tup value slice pins s σ H _ _ v u Q I rx ry ⟨a, vs, i, w, rfl, rfl, hq, h2, q.here ab iw⟩ hs
  case rl.int a vs ds hq ht i =>
    obtain ⟨d, h1, q⟩ := h
    obtain ⟨w, h2, iw⟩ := ht.atI h1
    exact ix_list value slice pins s σ H _ _ v u Q I rx ry ⟨a, vs, i, w, rfl, rfl, hq.sq, h2, q.here ab iw⟩ hs
  case ref.int a i =>
    obtain ⟨xs, d, e, h1, q⟩ := h
    obtain ⟨vs, e1, ht⟩ := lst_of ab e
    obtain ⟨w, h2, iw⟩ := ht.atI h1
    exact ix_list value slice pins s σ H _ _ v u Q I rx ry ⟨a, vs, i, w, rfl, rfl, SqL.of e1, h2, q.here ab iw⟩ hs
theorem IsDs.cut {K : PySem.W.Frag} {vs : List V} {ds : List D} (h : IsDs K H vs ds) (lo hi : Option Int) : IsDs K H (cutV vs lo hi) (DL.cut ds lo hi) := by
  unfold cutV DL.cut
  rw [h.length]
  exact (h.drop _).take _
/-- a[lo:hi] on data -/
def up3 (K : PySem.W.Frag) : V → Option Int → Option Int → Hp → VK → Prop := fun v lo hi H Q => ∃ x η, IsD K H v x ∧ Abs K η H ∧ slcD x lo hi η (endE K H Q)
theorem sIx_all {n : Nat} {lo hi : Option Int} (h : HT.sIx n 0 lo = 0 ∧ HT.sIx n n hi = n) {α : Type} {xs : List α} (e : xs.length = n) : DL.cut xs lo hi = xs := by
  unfold DL.cut
  rw [e, h.1, h.2]
  simp [← e]
theorem sl_D : SlR X (up3 X.K) := by
  intro pins s σ H x v vl vu lo hi sl Q I rx hs pl pu h
  obtain ⟨a, η, ia, ab, h⟩ := h
  cases ia <;> simp only [slcD] at h
  case str z => exact sl_str pins s σ H _ v vl vu lo hi sl Q I rx hs pl pu ⟨z, rfl, h.1, h.2.hstr ab⟩
  case tup a vs ds hq ht =>
    refine sl_tupA pins s σ H _ v vl vu lo hi sl Q I rx hs pl pu ⟨a, vs, rfl, hq, fun e => ?_, fun _ p hp => h.ntup ab (ht.cut lo hi) hp⟩
    rw [sIx_all (by rw [← ht.length]; exact e) rfl] at h
    exact h.here ab (.tup hq ht)
  case rl a vs ds hq ht =>
    exact sl_list pins s σ H _ v vl vu lo hi sl Q I rx hs pl pu ⟨a, vs, rfl, hq.sq, fun p hp => endE.nlst h ab (ht.cut lo hi) hp⟩
  case ref a =>
    obtain ⟨xs, e, q⟩ := h
    obtain ⟨vs, e1, ht⟩ := lst_of ab e
    exact sl_list pins s σ H _ v vl vu lo hi sl Q I rx hs pl pu ⟨a, vs, rfl, SqL.of e1, fun p hp => endE.nlst q ab (ht.cut lo hi) hp⟩
end
end DL

set_option Elab.async false
set_option linter.all false
set_option maxRecDepth 100000
set_option maxHeartbeats 4000000
/-! DL4: t[::-1], built-in functions, methods, stores by place, isinstance, on data. -/
namespace DL
open PySem PySem.Spec PyProof.Rows L2 HT
/-! ### t[::-1] -/
theorem rev_pick {xs : Array Value} : ((List.range xs.size).filterMap fun (m : Nat) => xs[(((xs.size : Int) - 1) + (m : Int) * (-1)).toNat]?).toArray = xs.toList.reverse.toArray := by
  congr 1
  have e : (fun (m : Nat) => xs[(((xs.size : Int) - 1) + (m : Int) * (-1)).toNat]?) = fun m => xs[xs.size - 1 - m]? := by
    funext m
    have : (((xs.size : Int) - 1) + (m : Int) * (-1)).toNat = xs.size - 1 - m := by omega
    rw [this]
  rw [e]
  have e2 : ((List.range xs.size).map fun m => xs.size - 1 - m).filterMap (fun m => xs[m]?) = xs.toList.reverse := by
    rw [PySem.W.krv_range, List.filterMap_reverse, PySem.W.krv_all]
  rw [List.filterMap_map] at e2
  exact e2
section
variable {prog : Program} {w : World} {A : Around} {E : Value → Shared → Prop} {s : Shared}
theorem applied_rev {sl : Addr} {t : Tok} {n : Nat} {Q : Int × Int × Nat → Shared → Prop} (hs : s.heap.IsSliceOf sl .none .none (.int (-1) t))
    (h : Q ((n : Int) - 1, -1, n) s) : wpAny (model prog w) A (Builtin.Slice.sliceApplied (.ref sl) (pure (n : Int))) Q E s := by
  obtain ⟨o1, ho1, hc1, hd1⟩ := id hs
  unfold Builtin.Slice.sliceApplied Builtin.Slice.sliceFields
  refine wpAny_bind (wpAny_bind (wpAny_field ho1 hd1 (x := .none) rfl (wpAny_bind (wpAny_field ho1 hd1 (x := .none) rfl (wpAny_bind (wpAny_field ho1 hd1 (x := .int (-1) t) rfl (wpAny_pure ?_)))))))
  refine wpAny_bind (slicePart_ (.int (-1) t) ?_)
  show wpAny _ _ (if ((-1 : Int) == 0) = true then _ else _) _ _ s
  rw [if_neg (by decide)]
  refine wpAny_bind (slicePart_ .none (wpAny_bind (slicePart_ .none (wpAny_bind (wpAny_pure ?_)))))
  refine wpAny_pure ?_
  have e1 : Builtin.Slice.sliceAdjust none none (-1) (n : Int) = ((n : Int) - 1, -1) := rfl
  have e2 : Builtin.Slice.slicePlaces ((n : Int) - 1) (-1) (-1) = n := by
    unfold Builtin.Slice.slicePlaces
    rw [if_neg (by decide)]
    have e3 : ((n : Int) - 1 - -1 - 1) / (- -1) = (n : Int) - 1 := by
      rw [show (- -1 : Int) = 1 by decide, Int.ediv_one]
      omega
    rw [e3]
    split <;> omega
  show Q ((Builtin.Slice.sliceAdjust none none (-1) (n : Int)).1, (-1 : Int), Builtin.Slice.slicePlaces (Builtin.Slice.sliceAdjust none none (-1) (n : Int)).1 (Builtin.Slice.sliceAdjust none none (-1) (n : Int)).2 (-1)) s
  rw [e1]
  show Q ((n : Int) - 1, (-1 : Int), Builtin.Slice.slicePlaces ((n : Int) - 1) (-1) (-1)) s
  rw [e2]
  exact h
theorem getItem_tuple_rev {a sl : Addr} {items : Array Value} {t : Tok} {Q : Value → Shared → Prop} (ht : IsTup s.heap a items) (hs : s.heap.IsSliceOf sl .none .none (.int (-1) t))
    (h : Q (.ref s.heap.objs.size) { s with heap := s.heap.push { cls := .type "tuple", data := .seq items.toList.reverse.toArray } }) (hsz : items.size ≤ sizeLine) : wpAny (model prog w) A (getItem (.ref a) (.ref sl)) Q E s := by
  have fits : sizeOk (.seq items.toList.reverse.toArray) := by
    show items.toList.reverse.toArray.size ≤ sizeLine
    rw [List.size_toArray, List.length_reverse, Array.length_toList]; exact hsz
  obtain ⟨o1, ho1, hc1, hd1⟩ := id hs
  have hT : s.TypeIs (.ref sl) "slice" := ⟨o1, ho1, hc1⟩
  unfold getItem
  try with_reducible refine wpAny_holding ?_
  first | refine wpAny_bind (wpAny_pure ?_) | skip
  refine wpAny_bind (wpAny_sequenceKey ht.typeIs (by decide) ?_)

  refine wpAny_bind (wpAny_callSpecial?_slot (name := Str.ofString "__getitem__") ht.typeIs PyProof.Rows.slot_tuple_getitem
    (wpAny_call_entry PyProof.Rows.slot_tuple_getitem ht.typeIs entry_tuple_getitem ?_ (args_tuple_getitem _ _)))
  show wpAny _ _ (Builtin.Tuple.tupleItemsOf (.ref a) >>= _) _ _ s
  refine wpAny_bind (tupleItemsOf_ ht ?_)
  refine wpAny_bind (wpAny_typeOf hT ?_)
  rw [if_pos (by decide)]
  refine wpAny_bind (applied_rev hs ?_)
  have no : ¬ ((((items.size : Int) - 1) == 0 && (-1 : Int) == 1 && items.size == items.size) = true) := by
    intro q
    rw [Bool.and_eq_true, Bool.and_eq_true] at q
    exact absurd q.1.2 (by decide)
  show wpAny _ _ (if (((items.size : Int) - 1) == 0 && (-1 : Int) == 1 && items.size == items.size) = true then _ else _) _ _ s
  rw [if_neg no, rev_pick]
  first
    | exact wpAny_bind (m := Builtin.Tuple.tupleExact _) (wpAny_newObj_type (wpAny_pure ⟨_, rfl, wpAny_pure h⟩) fits)
    | exact wpAny_bind (m := Builtin.Tuple.tupleExact _) (wpAny_newObj_type (wpAny_bind (wpAny_pure (wpAny_pure ⟨_, rfl, wpAny_pure h⟩))) fits)
    | exact wpAny_bind (wpAny_bind (m := Builtin.Tuple.tupleExact _) (wpAny_newObj_type (wpAny_pure (wpAny_pure ⟨_, rfl, wpAny_pure h⟩)) fits))
    | exact wpAny_bind (wpAny_bind (m := Builtin.Tuple.tupleExact _) (wpAny_newObj_type (wpAny_pure ⟨_, rfl, wpAny_pure h⟩) fits))
end
section
variable {X : Cx} {pins : List (Addr × Obj)} {σ : L2.St} {H : Hp} {s : Shared} {η : Sto} {K : PySem.W.Frag}
theorem IsDs.bls : ∀ {bs : List Bool} {vs : List V}, IsDs K H vs (bs.map .bl) → vs = bs.map .bl
  | [], _, h => by cases h; rfl
  | b :: bs, _, h => by
    cases h with
    | cons i t => cases i; rw [IsDs.bls t]; rfl
theorem IsDs.ints : ∀ {bs : List Int} {vs : List V}, IsDs K H vs (bs.map .int) → vs = bs.map .int
  | [], _, h => by cases h; rfl
  | b :: bs, _, h => by
    cases h with
    | cons i t => cases i; rw [IsDs.ints t]; rfl
theorem IsDs.one {vs : List V} {d : D} (h : IsDs K H vs [d]) : ∃ v, vs = [v] ∧ IsD K H v d := by
  cases h with
  | cons i t => cases t; exact ⟨_, rfl, i⟩
theorem IsDs.two {vs : List V} {d e : D} (h : IsDs K H vs [d, e]) : ∃ v w, vs = [v, w] ∧ IsD K H v d ∧ IsD K H w e := by
  cases h with
  | cons i t => obtain ⟨w, e1, j⟩ := t.one; subst e1; exact ⟨_, w, rfl, i, j⟩
theorem TyX.ofD (ab : Abs K η H) {d : D} {v : V} {c : String} (i : IsD K H v d) (h : clsD d η c) : TyX K H v (.type c) := by
  cases i <;> simp only [clsD] at h
  case non => subst h; exact .base .non
  case bl b => subst h; exact .base (.bl b)
  case int b => subst h; exact .base (.int b)
  case str b => subst h; exact .base (.str b)
  case tup a vs ds hs ht =>
    subst h
    rcases hs with (e | ⟨o, e⟩) | ⟨o, its, n, e, hc, _⟩
    · exact .base (.tup e)
    · exact .fTuple e
    · exact .kTuple e hc
  case rl a vs ds hs ht =>
    subst h
    rcases hs with ⟨o, e⟩ | ⟨o, its, n, e, hc, _⟩
    · exact .base (.frz e)
    · exact .kList e hc
  case ref a =>
    rcases h with ⟨xs, e, rfl⟩ | ⟨kvs, e, rfl⟩
    · obtain ⟨vs, e1, _⟩ := lst_of ab e
      exact .base (.lst e1)
    · obtain ⟨us, e1, _⟩ := ab _ _ e
      exact .base (.dK e1)
/-- the classes that are asked -/
def clsOk (T : String) : Bool := T == "int" || T == "bool" || T == "str" || T == "tuple" || T == "list" || T == "dict"
theorem kit_D {K : PySem.W.Frag} {c T : String} (h : clsOk T = true) (hc : c = "NoneType" ∨ c = "bool" ∨ c = "int" ∨ c = "str" ∨ c = "tuple" ∨ c = "list" ∨ c = "dict") : PySem.W.kitOne K (.type c) (.type T) = some (isCls c T) := by
  simp only [clsOk, Bool.or_eq_true, beq_iff_eq] at h
  rcases h with ((((h | h) | h) | h) | h) | h <;> subst h <;> rcases hc with h | h | h | h | h | h | h <;> subst h <;> exact kit_ty (by decide +kernel)
theorem clsD_in {d : D} {c : String} (h : clsD d η c) : c = "NoneType" ∨ c = "bool" ∨ c = "int" ∨ c = "str" ∨ c = "tuple" ∨ c = "list" ∨ c = "dict" := by
  cases d <;> simp only [clsD] at h
  case ref a => rcases h with ⟨_, _, rfl⟩ | ⟨_, _, rfl⟩ <;> simp
  all_goals (subst h; simp)
end
def upC (K : PySem.W.Frag) (p : List D → Sto → DK → Prop) : List V → Hp → VK → Prop := fun vs H Q => ∃ ds η, IsDs K H vs ds ∧ Abs K η H ∧ p ds η (endE K H Q)
def BN.ty : BN → Bool
  | .int => true | .str => true | .tuple => true | .list => true | .set => true | .zip => true | _ => false
def BN.id : BN → String
  | .len => "len" | .abs => "abs" | .int => "int" | .str => "str" | .repr => "repr" | .tuple => "tuple" | .list => "list" | .all => "all" | .any => "any" | .sum => "sum"
  | .min => "min" | .max => "max" | .sorted => "sorted" | .set => "set" | .zip => "zip"
def BN.v (f : BN) : Value := if f.ty = true then .type f.id else .builtin f.id
section
variable {X : Cx}
theorem repr_D (hg : X.A.guards = some []) (hu : X.A.units + 100 < cLine) : CallR X (.builtin "repr") (upC X.K (bltD .repr)) := by
  intro pins s σ H xs us Q I r h
  obtain ⟨ds, η, is, ab, h⟩ := h
  rcases ds with _ | ⟨d, _ | ⟨e, rest⟩⟩
  · simp [bltD] at h
  · obtain ⟨v, rfl, i⟩ := is.one
    simp only [bltD] at h
    obtain ⟨u, rfl, ru⟩ := r.one
    obtain ⟨p, hp, ⟨h1, h2, h3⟩, h4, q⟩ := h
    obtain ⟨as, rd, hs⟩ := Pd.reads I ab hp i ru
    have hs2 : p.hasDict = true → sysModules ∉ as := fun e => by
      rcases h2 with h2 | h2
      · rw [h2] at e; cases e
      · exact hs h2
    have q0 : Q (.str p.shown) H := q.hstr ab
    cases hp with
    | non => cases i; cases ru; exact PySem.P.repr_of_none ⟨.str _, H, I.tok _, ⟨_, rfl⟩, q0⟩
    | bl b => cases i; cases ru; exact PySem.P.repr_of_bool ⟨.str _, H, I.tok _, ⟨_, rfl⟩, q0⟩
    | int j => cases i; obtain ⟨t, rfl⟩ := ru; exact PySem.P.repr_of_int (by simpa [PyData.showable] using h1) ⟨.str _, H, I.tok _, ⟨_, rfl⟩, q0⟩
    | str j => cases i; obtain ⟨t, rfl⟩ := ru; exact PySem.P.repr_of_str ⟨.str _, H, I.tok _, ⟨_, rfl⟩, q0⟩ h4
    | tup k => cases i; cases ru; exact repr_of_reads' rd h1 hs2 hg (by omega) (fun _ _ e => e) (fun h' u tk hk => ⟨.str _, H, I.kept (t' := tk) hk, ⟨_, rfl⟩, q0⟩) h4
    | rl k => cases i; cases ru; exact repr_of_reads' rd h1 hs2 hg (by omega) (fun _ _ e => e) (fun h' u tk hk => ⟨.str _, H, I.kept (t' := tk) hk, ⟨_, rfl⟩, q0⟩) h4
    | lst e k => cases i; cases ru; exact repr_of_reads' rd h1 hs2 hg (by omega) (fun _ _ e => e) (fun h' u tk hk => ⟨.str _, H, I.kept (t' := tk) hk, ⟨_, rfl⟩, q0⟩) h4
    | dic e => cases i; cases ru; exact repr_of_reads' rd h1 hs2 hg (by omega) (fun _ _ e => e) (fun h' u tk hk => ⟨.str _, H, I.kept (t' := tk) hk, ⟨_, rfl⟩, q0⟩) h4
  · simp [bltD] at h
/-- a value that stands for an item with its data -/
def StD (K : PySem.W.Frag) (H : Hp) (u : Value) (b : D × PyData) : Prop := ∃ v, RelV v u ∧ IsD K H v b.1
theorem std_of {K : PySem.W.Frag} {H : Hp} : ∀ {xs : List D} {ps : List PyData} {vs : List V} {us : List Value}, xs.length = ps.length → IsDs K H vs xs → Vals vs us → PySem.W.EachIs (StD K H) us (xs.zip ps)
  | _, [], _, _, e, .nil, .nil => .nil
  | _, p :: ps, _, _, e, .cons i is, .cons r rs => .cons ⟨_, r, i⟩ (std_of (by simpa using e) is rs)
  | _, _ :: _, _, _, e, .nil, .nil => by simp at e
  | _, [], _, _, e, .cons _ _, .cons _ _ => by simp at e
theorem rd_of {h : Heap} : ∀ {xs : List D} {ps : List PyData} {us : List Value} {as : List Addr}, xs.length = ps.length → ReadsAll h us ps as → PySem.W.EachIs (fun v (b : D × PyData) => ∃ as, Reads h v b.2 as) us (xs.zip ps)
  | [], [], _, _, e, .nil => .nil
  | x :: xs, p :: ps, _, _, e, .cons r rs => .cons ⟨_, r⟩ (rd_of (by simpa using e) rs)
  | [], _ :: _, _, _, e, _ => by simp at e
  | _ :: _, [], _, _, e, _ => by simp at e
theorem std_back {K : PySem.W.Frag} {H : Hp} : ∀ {us : List Value} {bs : List (D × PyData)}, PySem.W.EachIs (StD K H) us bs → ∃ vs, Vals vs us ∧ IsDs K H vs (bs.map Prod.fst)
  | _, _, .nil => ⟨[], .nil, .nil⟩
  | _, _, .cons ⟨v, r, i⟩ t => let ⟨vs, rs, is⟩ := std_back t; ⟨v :: vs, .cons r rs, .cons i is⟩
theorem Pds.length {η : Sto} : ∀ {xs : List D} {ps : List PyData}, Pds η xs ps → xs.length = ps.length
  | _, _, .nil => rfl
  | _, _, .cons _ t => by rw [List.length_cons, List.length_cons, Pds.length t]
theorem zip_snd : ∀ {xs : List D} {ps : List PyData}, xs.length = ps.length → (xs.zip ps).map Prod.snd = ps
  | [], [], _ => rfl
  | x :: xs, p :: ps, e => by rw [List.zip_cons_cons, List.map_cons, zip_snd (by simpa using e)]
  | [], _ :: _, e => by simp at e
  | _ :: _, [], e => by simp at e
theorem sorted_D (hu : X.A.units + 100 < cLine) : CallR X (.builtin "sorted") (upC X.K (bltD .sorted)) := by
  intro pins s σ H xs us Q I r h
  obtain ⟨ds, η, is, ab, h⟩ := h
  rcases ds with _ | ⟨d, _ | ⟨e, rest⟩⟩
  · simp [bltD] at h
  · obtain ⟨v, rfl, i⟩ := is.one
    simp only [bltD] at h
    obtain ⟨xs, hx, q⟩ := h
    obtain ⟨a, vs, rfl, hq, hi⟩ := lstq_of ab i hx
    obtain ⟨its, rv, hl, hz⟩ := I.list hq
    rw [Vals.ref1 r]
    have hlen : its.length ≤ sizeLine := by rw [← rv.length]; exact hz
    rcases q with ⟨h1, q⟩ | ⟨ps, hp, hal, hk, hd, q⟩
    · refine Srt.sorted_any hl.isList hlen (fun h2 => ?_) fun out ho => ?_
      · rw [← rv.length, hi.length] at h2
        omega
      · have e : out = its := by
          have hl2 : its.length ≤ 1 := by rw [← rv.length, hi.length]; exact h1
          match its, hl2, ho with
          | [], _, ho => exact List.perm_nil.mp ho
          | [z], _, ho => exact List.perm_singleton.mp ho
          | _ :: _ :: _, h, _ => simp at h
        subst e
        obtain ⟨ep, he'⟩ := PyProof.Rows.sortedAll_at s.heap out out.toArray
        exact ⟨.ref _, upd H (s.heap.objs.size + 1) (.lst vs), I.laid (t' := s.toks) (fun _ _ => PyProof.Rows.sortedAll_old) (Nat.le_succ _) ⟨hz, out, ep, rv, he'⟩, rfl, endE.nlst q ab hi (I.hok.fresh (Nat.le_succ _))⟩
    · have el := hp.length
      obtain ⟨as, rd, _⟩ := Pds.reads I ab hp hi rv
      have e1 := std_of el hi rv
      have e2 := rd_of el rd
      have e3 := zip_snd el
      refine PySem.W.sorted_data (R := StD X.K H) hl.isList e1 e2 (by rw [e3]; exact hal) (by rw [e3]; exact hk) (by rw [List.length_zip, ← el, Nat.min_self, ← hi.length]; exact hz) (fun b hb => ?_) fun out ho hR => ?_
      · have hm : b.2 ∈ ps := by rw [← e3]; exact List.mem_map_of_mem hb
        have := hd _ hm
        show X.A.units + 2 + b.2.depth < cLine
        omega
      · obtain ⟨ws, rw', iw⟩ := std_back hR
        obtain ⟨ep, he'⟩ := PyProof.Rows.sortedAll_at s.heap its out.toArray
        have hwl : ws.length ≤ sizeLine := by
          rw [rw'.length, ho, List.length_zip, ← el, Nat.min_self, ← hi.length]; exact hz
        exact ⟨.ref _, upd H (s.heap.objs.size + 1) (.lst ws), I.laid (t' := s.toks) (fun _ _ => PyProof.Rows.sortedAll_old) (Nat.le_succ _) ⟨hwl, out, ep, rw', he'⟩, rfl, endE.nlst q ab iw (I.hok.fresh (Nat.le_succ _))⟩
  · simp [bltD] at h
theorem blt_D (f : BN) (hc : X.calm = true) (hg : X.A.guards = some []) (hu : X.A.units + 100 < cLine) : CallR X f.v (upC X.K (bltD f)) := by
  cases f
  case repr => exact repr_D hg hu
  case len =>
    intro pins s σ H xs us Q I r h
    obtain ⟨ds, η, is, ab, h⟩ := h
    rcases ds with _ | ⟨d, _ | ⟨e, rest⟩⟩
    · simp [bltD] at h
    · obtain ⟨v, rfl, i⟩ := is.one
      by_cases hs : ∃ z, d = .str z
      · obtain ⟨z, rfl⟩ := hs
        simp only [bltD] at h
        cases i
        exact call_len_str pins s σ H _ us Q I r ⟨_, rfl, h.1, h.2.hint ab⟩
      · have h' : ∃ xs, seqD d η xs ∧ endE X.K H Q (.int xs.length) η := by
          cases d <;> first | exact absurd ⟨_, rfl⟩ hs | simpa only [bltD] using h
        obtain ⟨xs, hx, q⟩ := h'
        obtain ⟨a, vs, rfl, hq, ht⟩ := seq_of ab i hx
        exact call_len_seq pins s σ H _ us Q I r ⟨a, vs, rfl, hq, by rw [ht.length]; exact q.hint ab⟩
    · simp [bltD] at h
  case abs =>
    intro pins s σ H xs us Q I r h
    obtain ⟨ds, η, is, ab, h⟩ := h
    rcases ds with _ | ⟨d, _ | ⟨e, rest⟩⟩
    · simp [bltD] at h
    · obtain ⟨v, rfl, i⟩ := is.one
      cases i <;> simp only [bltD] at h
      exact call_abs pins s σ H _ us Q I r ⟨_, rfl, h.hint ab⟩
    · simp [bltD] at h
  case int =>
    intro pins s σ H xs us Q I r h
    obtain ⟨ds, η, is, ab, h⟩ := h
    rcases ds with _ | ⟨d, _ | ⟨e, rest⟩⟩
    · simp [bltD] at h
    · obtain ⟨v, rfl, i⟩ := is.one
      cases i <;> simp only [bltD] at h
      · exact call_int1 pins s σ H _ us Q I r (.inr ⟨_, rfl, h.hint ab⟩)
      · exact call_int1 pins s σ H _ us Q I r (.inl ⟨_, rfl, h.hint ab⟩)
    · simp [bltD] at h
  case str =>
    intro pins s σ H xs us Q I r h
    obtain ⟨ds, η, is, ab, h⟩ := h
    rcases ds with _ | ⟨d, _ | ⟨e, rest⟩⟩
    · simp [bltD] at h
    · obtain ⟨v, rfl, i⟩ := is.one
      cases i <;> simp only [bltD] at h
      exact call_str_int pins s σ H _ us Q I r ⟨_, rfl, h.1, h.2.hstr ab⟩
    · simp [bltD] at h
  case tuple =>
    intro pins s σ H xs us Q I r h
    obtain ⟨ds, η, is, ab, h⟩ := h
    rcases ds with _ | ⟨d, _ | ⟨e, rest⟩⟩
    · simp [bltD] at h
    · obtain ⟨v, rfl, i⟩ := is.one
      simp only [bltD] at h
      obtain ⟨xs, hx, q⟩ := h
      by_cases ht : ∃ ys, d = .tup ys
      · obtain ⟨ys, rfl⟩ := ht
        simp only [seqD] at hx
        subst hx
        cases i with
        | tup hs hi => exact call_tuple_of pins s σ H _ us Q I r ⟨_, _, rfl, .inr ⟨hs, q.here ab (.tup hs hi)⟩⟩
      · have hl : lstD d η xs := by cases d <;> first | exact absurd ⟨_, rfl⟩ ht | simpa only [seqD, lstD] using hx
        obtain ⟨a, vs, rfl, hq, hi⟩ := lstq_of ab i hl
        exact call_tuple_of pins s σ H _ us Q I r ⟨a, vs, rfl, .inl ⟨hq, fun l hl => q.ntup ab hi hl⟩⟩
    · simp [bltD] at h
  case list =>
    intro pins s σ H xs us Q I r h
    obtain ⟨ds, η, is, ab, h⟩ := h
    rcases ds with _ | ⟨d, _ | ⟨e, rest⟩⟩
    · simp [bltD] at h
    · obtain ⟨v, rfl, i⟩ := is.one
      simp only [bltD] at h
      obtain ⟨xs, hx, q⟩ := h
      obtain ⟨a, vs, rfl, hq, hi⟩ := seq_of ab i hx
      exact call_list_of pins s σ H _ us Q I r ⟨a, vs, rfl, hq, fun l hl => endE.nlst q ab hi hl⟩
    · simp [bltD] at h
  case all =>
    intro pins s σ H xs us Q I r h
    obtain ⟨ds, η, is, ab, h⟩ := h
    rcases ds with _ | ⟨d, _ | ⟨e, rest⟩⟩
    · simp [bltD] at h
    · obtain ⟨v, rfl, i⟩ := is.one
      simp only [bltD] at h
      obtain ⟨bs, hx, q⟩ := h
      obtain ⟨a, vs, rfl, hq, hi⟩ := lstq_of ab i hx
      have e := hi.bls
      subst e
      exact cr_all hc pins s σ H _ us Q I r ⟨a, bs, rfl, hq, q.hbl ab⟩
    · simp [bltD] at h
  case any =>
    intro pins s σ H xs us Q I r h
    obtain ⟨ds, η, is, ab, h⟩ := h
    rcases ds with _ | ⟨d, _ | ⟨e, rest⟩⟩
    · simp [bltD] at h
    · obtain ⟨v, rfl, i⟩ := is.one
      simp only [bltD] at h
      obtain ⟨bs, hx, q⟩ := h
      obtain ⟨a, vs, rfl, hq, hi⟩ := lstq_of ab i hx
      have e := hi.bls
      subst e
      exact cr_any hc pins s σ H _ us Q I r ⟨a, bs, rfl, hq, q.hbl ab⟩
    · simp [bltD] at h
  case sum =>
    intro pins s σ H xs us Q I r h
    obtain ⟨ds, η, is, ab, h⟩ := h
    rcases ds with _ | ⟨d, _ | ⟨e, rest⟩⟩
    · simp [bltD] at h
    · obtain ⟨v, rfl, i⟩ := is.one
      simp only [bltD] at h
      obtain ⟨bs, hx, q⟩ := h
      obtain ⟨a, vs, rfl, hq, hi⟩ := lstq_of ab i hx
      have e := hi.ints
      subst e
      exact cr_sum hc pins s σ H _ us Q I r ⟨a, bs, rfl, hq, q.hint ab⟩
    · simp [bltD] at h
  case min =>
    intro pins s σ H xs us Q I r h
    obtain ⟨ds, η, is, ab, h⟩ := h
    rcases ds with _ | ⟨d, _ | ⟨e, _ | ⟨g, rest⟩⟩⟩
    · simp [bltD] at h
    · simp [bltD] at h
    · obtain ⟨v, w, rfl, i, j⟩ := is.two
      cases i <;> cases j <;> simp only [bltD] at h
      exact call_min2 hc pins s σ H _ us Q I r ⟨_, _, rfl, h.hint ab⟩
    · simp [bltD] at h
  case max =>
    intro pins s σ H xs us Q I r h
    obtain ⟨ds, η, is, ab, h⟩ := h
    rcases ds with _ | ⟨d, _ | ⟨e, _ | ⟨g, rest⟩⟩⟩
    · simp [bltD] at h
    · simp [bltD] at h
    · obtain ⟨v, w, rfl, i, j⟩ := is.two
      cases i <;> cases j <;> simp only [bltD] at h
      exact call_max2 hc pins s σ H _ us Q I r ⟨_, _, rfl, h.hint ab⟩
    · simp [bltD] at h
  case sorted => exact sorted_D hu
  all_goals (intro pins s σ H xs us Q I r h; obtain ⟨ds, η, is, ab, h⟩ := h; simp [bltD] at h)
end
/-! ### methods -/
def upM (K : PySem.W.Frag) (p : D → List D → Sto → DK → Prop) : V → List V → Hp → VK → Prop := fun v vs H Q => ∃ x ds η, IsD K H v x ∧ IsDs K H vs ds ∧ Abs K η H ∧ p x ds η (endE K H Q)
theorem endE.wlst {K : PySem.W.Frag} {H : Hp} {Q : VK} {η : Sto} {d : D} {v : V} {a : Addr} {ds : List D} {vs us : List V} (h : endE K H Q d (put η a (.lst ds))) (ab : Abs K η H) (e : H a = some (.lst us)) (i : IsDs K H vs ds) (k : IsD K H v d) : Q v (upd H a (.lst vs)) :=
  have t : TpM K H (L2.upd H a (.lst vs)) := TpM.lst e
  h _ _ t (ab.put t ⟨vs, upd_same, i.mono t⟩) (k.mono t)
section
variable {X : Cx}
theorem mt_appendD : MtR X "list.append" (upM X.K (mthD .append)) := by
  intro pins s σ H x xs v us Q I rx rxs h
  obtain ⟨d, ds, η, i, is, ab, h⟩ := h
  rcases ds with _ | ⟨e, _ | ⟨g, rest⟩⟩ <;> cases i <;> simp only [mthD] at h
  obtain ⟨ys, h1, h2, q⟩ := h
  obtain ⟨w, rfl, j⟩ := is.one
  obtain ⟨vs, e1, ht⟩ := lst_of ab h1
  exact mt_append pins s σ H _ _ v us Q I rx rxs ⟨_, vs, w, rfl, rfl, e1, by rw [ht.length]; exact h2, q.wlst ab e1 (ht.append (.cons j .nil)) .non⟩
theorem mt_extendD : MtR X "list.extend" (upM X.K (mthD .extend)) := by
  intro pins s σ H x xs v us Q I rx rxs h
  obtain ⟨d, ds, η, i, is, ab, h⟩ := h
  rcases ds with _ | ⟨e, _ | ⟨g, rest⟩⟩ <;> cases i <;> first | (cases e <;> simp only [mthD] at h) | simp only [mthD] at h
  obtain ⟨xs, ys, h1, h2, h3, q⟩ := h
  obtain ⟨w, rfl, j⟩ := is.one
  cases j
  obtain ⟨vs, e1, ht⟩ := lst_of ab h1
  obtain ⟨ws, e2, hw⟩ := lst_of ab h2
  exact mt_extend pins s σ H _ _ v us Q I rx rxs ⟨_, _, vs, ws, rfl, rfl, e1, e2, by rw [ht.length, hw.length]; exact h3, q.wlst ab e1 (ht.append hw) .non⟩
theorem IsDs.appendD {K : PySem.W.Frag} {H : Hp} : ∀ {xs ys : List D} {vs : List V}, IsDs K H vs (xs ++ ys) → ∃ us ws, vs = us ++ ws ∧ IsDs K H us xs ∧ IsDs K H ws ys
  | [], ys, vs, h => ⟨[], vs, rfl, .nil, h⟩
  | x :: xs, ys, _, h => by
    cases h with
    | cons i t =>
      obtain ⟨us, ws, e, h1, h2⟩ := IsDs.appendD t
      exact ⟨_ :: us, ws, by rw [e]; rfl, .cons i h1, h2⟩
theorem mt_popD : MtR X "list.pop" (upM X.K (mthD .pop)) := by
  intro pins s σ H x xs v us Q I rx rxs h
  obtain ⟨d, ds, η, i, is, ab, h⟩ := h
  rcases ds with _ | ⟨e, _ | ⟨g, rest⟩⟩ <;> cases i <;> first | (cases e <;> simp only [mthD] at h) | simp only [mthD] at h
  · obtain ⟨xs, y, h1, q⟩ := h
    cases is
    obtain ⟨vs, e1, ht⟩ := lst_of ab h1
    obtain ⟨us', ws, rfl, k1, k2⟩ := IsDs.appendD ht
    obtain ⟨w, rfl, k3⟩ := k2.one
    refine mt_pop pins s σ H _ _ v us Q I rx rxs ⟨_, us' ++ [w], w, rfl, rfl, e1, by simp, ?_⟩
    rw [List.dropLast_concat]
    exact q.wlst ab e1 k1 k3
  · rename_i k
    obtain ⟨xs, y, h1, h2, h3, h4, q⟩ := h
    obtain ⟨w, rfl, j⟩ := is.one
    cases j
    obtain ⟨vs, e1, ht⟩ := lst_of ab h1
    obtain ⟨u, hu, ku⟩ := ht.get h4
    have hlt : k.toNat < vs.length := by
      have := List.getElem?_eq_some_iff.mp hu
      exact this.1
    refine mt_popAt pins s σ H _ _ v us Q I rx rxs ⟨_, vs, k, k.toNat, u, rfl, rfl, e1, by omega, by omega, ?_, hu, q.wlst ab e1 (ht.erase _) ku⟩
    exact seqIndex_of h2 (by omega)
/-! ### stores by place -/
def upP (K : PySem.W.Frag) (p : D → D → D → Sto → (Sto → Prop) → Prop) : TSet := fun o i v H Q => ∃ a b d η, IsD K H o a ∧ IsD K H i b ∧ IsD K H v d ∧ Abs K η H ∧ p a b d η fun η' => ∀ H', TpM K H H' → Abs K η' H' → Q H'
theorem set_D : PSet X (upP X.K setD) := by
  intro pins s σ H o i v ov iv u Q I ro ri rv h
  obtain ⟨a, b, d, η, ia, ib, id, ab, h⟩ := h
  cases ia <;> cases ib <;> simp only [setD] at h
  obtain ⟨xs, j, h1, h2, q⟩ := h
  obtain ⟨vs, e1, ht⟩ := lst_of ab h1
  refine set_list pins s σ H _ _ v ov iv u Q I ro ri rv ⟨_, vs, _, j, rfl, rfl, e1, by rw [ht.length]; exact h2, ?_⟩
  have t : TpM X.K H (L2.upd H _ (.lst (vs.set j v))) := TpM.lst e1
  exact q _ t (ab.put t ⟨_, upd_same, (ht.set j id).mono t⟩)
/-! ### isinstance -/
theorem isI_D {T : String} (hT : clsOk T = true) : CallR X (.builtin "isinstance") (fun vs H Q => ∃ v x η c, vs = [v, .ty T] ∧ IsD X.K H v x ∧ Abs X.K η H ∧ clsD x η c ∧ Q (.bl (isCls c T)) H) := by
  intro pins s σ H xs us Q I r h
  obtain ⟨v, x, η, c, rfl, i, ab, hc, q⟩ := h
  exact call_isi pins s σ H _ us Q I r ⟨v, .ty T, .type c, .type T, _, rfl, .ty T, TyX.ofD ab i hc, kit_D hT (clsD_in hc), q⟩
end
end DL

set_option Elab.async false
set_option linter.all false
set_option maxRecDepth 100000
set_option maxHeartbeats 4000000
/-! DL5: readings lifted to the machine; expressions. -/
namespace DL
open PySem PySem.Spec PyProof.Rows L2
section
variable (K : PySem.W.Frag) (H : Hp)
def endT (Q : Bool → Hp → Prop) : Bool → Sto → Prop := fun b η => ∀ H', TpM K H H' → Abs K η H' → Q b H'
def endA (Q : List V → Hp → Prop) : List D → Sto → Prop := fun ds η => ∀ vs H', TpM K H H' → Abs K η H' → IsDs K H' vs ds → Q vs H'
def endO (Q : Option Int → Hp → Prop) : Option Int → Sto → Prop := fun o η => ∀ H', TpM K H H' → Abs K η H' → Q o H'
def endG (Q : L2.St → Hp → Prop) : DSt → Sto → Prop := fun δ η => ∀ σ H', TpM K H H' → Abs K η H' → Sl K H' σ δ → Q σ H'
end
def upE (K : PySem.W.Frag) (t : DE) : TE := fun σ H Q => ∃ δ η, Sl K H σ δ ∧ Abs K η H ∧ t δ η (endE K H Q)
def upT (K : PySem.W.Frag) (t : DT) : TT := fun σ H Q => ∃ δ η, Sl K H σ δ ∧ Abs K η H ∧ t δ η (endT K H Q)
def upA (K : PySem.W.Frag) (t : DA) : TA := fun σ H Q => ∃ δ η, Sl K H σ δ ∧ Abs K η H ∧ t δ η (endA K H Q)
def upO (K : PySem.W.Frag) (t : DO) : TO := fun σ H Q => ∃ δ η, Sl K H σ δ ∧ Abs K η H ∧ t δ η (endO K H Q)
def upG (K : PySem.W.Frag) (t : DG) : TG := fun v σ H Q => ∃ d δ η, IsD K H v d ∧ Sl K H σ δ ∧ Abs K η H ∧ t d δ η (endG K H Q)
def upGs (K : PySem.W.Frag) (t : DGs) : TGs := fun vs σ H Q => ∃ ds δ η, IsDs K H vs ds ∧ Sl K H σ δ ∧ Abs K η H ∧ t ds δ η (endG K H Q)
section
variable {K : PySem.W.Frag} {H H1 : Hp} {η : Sto} {σ : L2.St} {δ : DSt}
theorem endE.later {Q : VK} {d : D} (t : TpM K H H1) (h : endE K H Q d η) : endE K H1 Q d η := fun u H' t' a i => h u H' (t.trans t') a i
theorem endT.later {Q : Bool → Hp → Prop} {b : Bool} (t : TpM K H H1) (h : endT K H Q b η) : endT K H1 Q b η := fun H' t' a => h H' (t.trans t') a
theorem endA.later {Q : List V → Hp → Prop} {ds : List D} (t : TpM K H H1) (h : endA K H Q ds η) : endA K H1 Q ds η := fun u H' t' a i => h u H' (t.trans t') a i
theorem endO.later {Q : Option Int → Hp → Prop} {o : Option Int} (t : TpM K H H1) (h : endO K H Q o η) : endO K H1 Q o η := fun H' t' a => h H' (t.trans t') a
theorem endG.later {Q : L2.St → Hp → Prop} (t : TpM K H H1) (h : endG K H Q δ η) : endG K H1 Q δ η := fun u H' t' a i => h u H' (t.trans t') a i
theorem endT.here {Q : Bool → Hp → Prop} {b : Bool} (h : endT K H Q b η) (a : Abs K η H) : Q b H := h H (TpM.refl K H) a
theorem endA.here {Q : List V → Hp → Prop} {ds : List D} {vs : List V} (h : endA K H Q ds η) (a : Abs K η H) (i : IsDs K H vs ds) : Q vs H := h vs H (TpM.refl K H) a i
theorem endO.here {Q : Option Int → Hp → Prop} {o : Option Int} (h : endO K H Q o η) (a : Abs K η H) : Q o H := h H (TpM.refl K H) a
theorem endG.here {Q : L2.St → Hp → Prop} (h : endG K H Q δ η) (a : Abs K η H) (i : Sl K H σ δ) : Q σ H := h σ H (TpM.refl K H) a i

/-! running a lifted reading, with what is known behind it -/
theorem upE.seq {t : DE} {R : DK} {P : VK} (mo : MoE t) (sl : Sl K H σ δ) (ab : Abs K η H) (h : t δ η R)
    (k : ∀ x η1 u H1, R x η1 → TpM K H H1 → Abs K η1 H1 → IsD K H1 u x → Sl K H1 σ δ → P u H1) : upE K t σ H P :=
  ⟨δ, η, sl, ab, mo _ _ _ _ (fun x η1 r u H1 t a i => k x η1 u H1 r t a i (sl.mono t)) h⟩
theorem upT.seq {t : DT} {R : Bool → Sto → Prop} {P : Bool → Hp → Prop} (mo : MoT t) (sl : Sl K H σ δ) (ab : Abs K η H) (h : t δ η R)
    (k : ∀ x η1 H1, R x η1 → TpM K H H1 → Abs K η1 H1 → Sl K H1 σ δ → P x H1) : upT K t σ H P :=
  ⟨δ, η, sl, ab, mo _ _ _ _ (fun x η1 r H1 t a => k x η1 H1 r t a (sl.mono t)) h⟩
theorem upA.seq {t : DA} {R : List D → Sto → Prop} {P : List V → Hp → Prop} (mo : MoA t) (sl : Sl K H σ δ) (ab : Abs K η H) (h : t δ η R)
    (k : ∀ x η1 u H1, R x η1 → TpM K H H1 → Abs K η1 H1 → IsDs K H1 u x → Sl K H1 σ δ → P u H1) : upA K t σ H P :=
  ⟨δ, η, sl, ab, mo _ _ _ _ (fun x η1 r u H1 t a i => k x η1 u H1 r t a i (sl.mono t)) h⟩
theorem upO.seq {t : DO} {R : Option Int → Sto → Prop} {P : Option Int → Hp → Prop} (mo : MoO t) (sl : Sl K H σ δ) (ab : Abs K η H) (h : t δ η R)
    (k : ∀ x η1 H1, R x η1 → TpM K H H1 → Abs K η1 H1 → Sl K H1 σ δ → P x H1) : upO K t σ H P :=
  ⟨δ, η, sl, ab, mo _ _ _ _ (fun x η1 r H1 t a => k x η1 H1 r t a (sl.mono t)) h⟩
theorem upG.seq {t : DG} {d : D} {v : V} {R : DSt → Sto → Prop} {P : L2.St → Hp → Prop} (mo : MoG t) (i : IsD K H v d) (sl : Sl K H σ δ) (ab : Abs K η H) (h : t d δ η R)
    (k : ∀ δ1 η1 σ1 H1, R δ1 η1 → TpM K H H1 → Abs K η1 H1 → Sl K H1 σ1 δ1 → P σ1 H1) : upG K t v σ H P :=
  ⟨d, δ, η, i, sl, ab, mo _ _ _ _ _ (fun δ1 η1 r σ1 H1 t a sl => k δ1 η1 σ1 H1 r t a sl) h⟩
end
theorem pe_imp {X : Cx} {e : Expr} {t t' : TE} (h : PE X e t) (k : ∀ σ H Q, t' σ H Q → t σ H Q) : PE X e t' := ⟨fun pins s σ H Q I q => h.run pins s σ H Q I (k _ _ _ q)⟩
theorem pt_imp {X : Cx} {e : Expr} {t t' : TT} (h : PT X e t) (k : ∀ σ H Q, t' σ H Q → t σ H Q) : PT X e t' := ⟨fun pins s σ H Q I q => h.run pins s σ H Q I (k _ _ _ q)⟩
theorem pw_imp {X : Cx} {e : Expr} {t t' : TT} (h : PW X e t) (k : ∀ σ H Q, t' σ H Q → t σ H Q) : PW X e t' := ⟨fun wh pins s σ H Q I q => h.run wh pins s σ H Q I (k _ _ _ q)⟩
theorem pa_imp {X : Cx} {e : List Expr} {t t' : TA} (h : PA X e t) (k : ∀ σ H Q, t' σ H Q → t σ H Q) : PA X e t' := ⟨fun p pins s σ H Q I q => h.run p pins s σ H Q I (k _ _ _ q)⟩
theorem po_imp {X : Cx} {e : Option Expr} {t t' : TO} (h : PO X e t) (k : ∀ σ H Q, t' σ H Q → t σ H Q) : PO X e t' := ⟨fun pins s σ H Q I q => h.run pins s σ H Q I (k _ _ _ q)⟩
theorem pg_imp {X : Cx} {e : Expr} {t t' : TG} (h : PG X e t) (k : ∀ v σ H Q, t' v σ H Q → t v σ H Q) : PG X e t' := ⟨fun pins s σ H v u Q I r q => h.run pins s σ H v u Q I r (k _ _ _ _ q)⟩
theorem pgs_imp {X : Cx} {e : List Expr} {t t' : TGs} (h : PGs X e t) (k : ∀ v σ H Q, t' v σ H Q → t v σ H Q) : PGs X e t' := ⟨fun pins s σ H v u Q I r q => h.run pins s σ H v u Q I r (k _ _ _ _ q)⟩
theorem ps_imp {X : Cx} {e : Stmt} {t t' : TS} (h : PS X e t) (k : ∀ D σ H, t' D σ H → t D σ H) : PS X e t' := ⟨fun pins s σ H D I q => h.run pins s σ H D I (k _ _ _ q)⟩
theorem pss_imp {X : Cx} {e : List Stmt} {t t' : TS} (h : PSs X e t) (k : ∀ D σ H, t' D σ H → t D σ H) : PSs X e t' := ⟨fun pins s σ H D I q => h.run pins s σ H D I (k _ _ _ q)⟩

section
variable {X : Cx} {a b c : Expr} {ta tb tc : DE} {pos : Pos}
/-! ### names and constants -/
theorem se_var {i : Nat} {x : Str} (hN : X.N[i]? = some x) (hv : Vis X.env.scope x) (hd : (x == ("__debug__" : Str)) = false) (hcd : (x == ("__classdict__" : Str)) = false) : PE X (.Name x pos) (upE X.K fun δ η Q => ∃ d, δ[i]? = some (some d) ∧ Q d η) :=
  pe_imp (pe_var hN hv hd hcd) fun σ H Q ⟨δ, η, sl, ab, d, e, q⟩ => let ⟨v, e1, i⟩ := sl.2 _ _ e; ⟨v, e1, q.here ab i⟩
theorem se_con {e : Expr} {v : V} {d : D} (h : PE X e (tC v)) (i : ∀ H, IsD X.K H v d) : PE X e (upE X.K fun _ η Q => Q d η) :=
  pe_imp h fun σ H Q ⟨δ, η, sl, ab, q⟩ => q.here ab (i H)
/-! ### operations -/
theorem se_bin {o : BOp} (ha : PE X a (upE X.K ta)) (hb : PE X b (upE X.K tb)) (ma : MoE ta) (mb : MoE tb) :
    PE X (.BinOp a o.o b pos) (upE X.K fun δ η Q => ta δ η fun x η1 => tb δ η1 fun y η2 => opD o x y η2 Q) :=
  pe_imp (pe_op (op_D o) ha hb) fun σ H Q ⟨δ, η, sl, ab, h⟩ => upE.seq ma sl ab h fun x η1 u H1 h t a i sl => upE.seq mb sl a h fun y η2 v H2 h t' a' j sl' =>
    ⟨x, y, η2, i.mono t', j, a', opD_mono (fun d η h => h.later (t.trans t')) h⟩
theorem se_neg (ha : PE X a (upE X.K ta)) (ma : MoE ta) : PE X (.UnaryOp .USub a pos) (upE X.K fun δ η Q => ta δ η fun x η1 => ∃ i, x = .int i ∧ Q (.int (-i)) η1) :=
  pe_imp (pe_un un_neg ha) fun σ H Q ⟨δ, η, sl, ab, h⟩ => upE.seq ma sl ab h fun x η1 u H1 h t a i sl => by
    obtain ⟨j, rfl, q⟩ := h
    cases i
    exact ⟨j, rfl, (q.later t).hint a⟩
theorem endB_of {K : PySem.W.Frag} {H : Hp} {Q : VK} {η : Sto} {b : Bool} (h : endE K H Q (.bl b) η) : endB K H Q b η := fun H' t a => h (.bl b) H' t a (.bl b)
theorem se_cmp {o : COp} (hu : X.A.units + 100 < cLine) (ha : PE X a (upE X.K ta)) (hb : PE X b (upE X.K tb)) (ma : MoE ta) (mb : MoE tb) (hm : behindInMarks o.o b = false) :
    PE X (.Compare a [o.o] [b] pos) (upE X.K fun δ η Q => ta δ η fun x η1 => tb δ η1 fun y η2 => cmpD o x y η2 fun c η3 => Q (.bl c) η3) :=
  pe_imp (pe_cmpR (cmp_D o hu) ha hb hm) fun σ H Q ⟨δ, η, sl, ab, h⟩ => upE.seq ma sl ab h fun x η1 u H1 h t a i sl => upE.seq mb sl a h fun y η2 v H2 h t' a' j sl' =>
    ⟨x, y, η2, i.mono t', j, a', cmpD_mono (fun d η h => endB_of (h.later (t.trans t'))) h⟩
theorem st_cmp {o : COp} (hu : X.A.units + 100 < cLine) (ha : PE X a (upE X.K ta)) (hb : PE X b (upE X.K tb)) (ma : MoE ta) (mb : MoE tb) (hm : behindInMarks o.o b = false) :
    PT X (.Compare a [o.o] [b] pos) (upT X.K fun δ η Q => ta δ η fun x η1 => tb δ η1 fun y η2 => cmpD o x y η2 Q) :=
  pt_imp (pt_cmpR (cmp_D o hu) ha hb hm) fun σ H Q ⟨δ, η, sl, ab, h⟩ => upE.seq ma sl ab h fun x η1 u H1 h t a i sl => upE.seq mb sl a h fun y η2 v H2 h t' a' j sl' =>
    ⟨x, y, η2, i.mono t', j, a', cmpD_mono (fun d η h => show endB _ _ _ _ _ from fun H' t'' a'' => ⟨d, rfl, (h.later (t.trans t')) H' t'' a''⟩) h⟩
/-- whether c is met, or the chain ends -/
theorem up_chn {o p : COp} {K : PySem.W.Frag} {σ : L2.St} {H : Hp} {δ : DSt} {η : Sto} {R : Bool → Sto → Prop} {Q : VK} (ma : MoE ta) (mb : MoE tb) (mc : MoE tc) (sl : Sl K H σ δ) (ab : Abs K η H)
    (hR : ∀ b η H', TpM K H H' → Abs K η H' → R b η → Q (.bl b) H')
    (h : ta δ η fun x η1 => tb δ η1 fun y η2 => cmpD o x y η2 fun k η3 => if k = true then tc δ η3 fun z η4 => cmpD p y z η4 R else R false η3) : tChain (up2b K (cmpD o)) (up2b K (cmpD p)) (upE K ta) (upE K tb) (upE K tc) σ H Q :=
  upE.seq ma sl ab h fun x η1 u H1 h t a i sl => upE.seq mb sl a h fun y η2 v H2 h t' a' j sl' => ⟨x, y, η2, i.mono t', j, a', cmpD_mono (fun k η3 h => show endB _ _ _ _ _ from fun H3 t3 a3 => ⟨k, rfl, by
    cases k with
    | false => simpa using hR _ _ _ ((t.trans t').trans t3) a3 (by simpa using h)
    | true =>
      simp only [if_true] at h ⊢
      exact upE.seq mc (sl'.mono t3) a3 h fun z η4 w H4 h t4 a4 l sl4 => ⟨y, z, η4, j.mono (t3.trans t4), l, a4, cmpD_mono (fun b η5 r => show endB _ _ _ _ _ from fun H5 t5 a5 => hR _ _ _ ((((t.trans t').trans t3).trans t4).trans t5) a5 r) h⟩⟩) h⟩
theorem se_chn {o p : COp} (hu : X.A.units + 100 < cLine) (ha : PE X a (upE X.K ta)) (hb : PE X b (upE X.K tb)) (hc : PE X c (upE X.K tc)) (ma : MoE ta) (mb : MoE tb) (mc : MoE tc) (hm : lastMarks [o.o, p.o] [b, c] = false) :
    PE X (.Compare a [o.o, p.o] [b, c] pos) (upE X.K fun δ η Q => ta δ η fun x η1 => tb δ η1 fun y η2 => cmpD o x y η2 fun k η3 => if k = true then tc δ η3 fun z η4 => cmpD p y z η4 fun k η5 => Q (.bl k) η5 else Q (.bl false) η3) :=
  pe_imp (pe_chain (cmp_D o hu) (cmp_D p hu) ha hb hc hm) fun σ H Q ⟨δ, η, sl, ab, h⟩ => up_chn (R := fun b η => endE X.K H Q (.bl b) η) ma mb mc sl ab (fun b η H' t a r => r _ H' t a (.bl b)) h
theorem st_chn {o p : COp} (hu : X.A.units + 100 < cLine) (ha : PE X a (upE X.K ta)) (hb : PE X b (upE X.K tb)) (hc : PE X c (upE X.K tc)) (ma : MoE ta) (mb : MoE tb) (mc : MoE tc) (hm : lastMarks [o.o, p.o] [b, c] = false) :
    PT X (.Compare a [o.o, p.o] [b, c] pos) (upT X.K fun δ η Q => ta δ η fun x η1 => tb δ η1 fun y η2 => cmpD o x y η2 fun k η3 => if k = true then tc δ η3 fun z η4 => cmpD p y z η4 Q else Q false η3) :=
  pt_imp (pt_chain (cmp_D o hu) (cmp_D p hu) ha hb hc hm) fun σ H Q ⟨δ, η, sl, ab, h⟩ => up_chn (R := endT X.K H Q) ma mb mc sl ab (fun b η H' t a r => ⟨b, rfl, r H' t a⟩) h
/-! ### and, or, not, if -/
theorem se_andC {rest : List Expr} (ha : PE X a (upE X.K ta)) (hb : PE X (.BoolOp .And (b :: rest) pos) (upE X.K tb)) (ma : MoE ta) (mb : MoE tb) :
    PE X (.BoolOp .And (a :: b :: rest) pos) (upE X.K fun δ η Q => ta δ η fun x η1 => ∃ c, x = .bl c ∧ if c = true then tb δ η1 Q else Q (.bl false) η1) :=
  pe_imp (pe_and ha hb) fun σ H Q ⟨δ, η, sl, ab, h⟩ => upE.seq ma sl ab h fun x η1 u H1 h t a i sl => by
    obtain ⟨c, rfl, q⟩ := h
    cases i
    refine ⟨c, rfl, ?_⟩
    cases c with
    | true => simp only [if_true] at q ⊢; exact upE.seq mb sl a q fun y η2 v H2 h t' a' j sl' => h _ _ (t.trans t') a' j
    | false => simpa using (q.later t).hbl a
theorem se_orC {rest : List Expr} (ha : PE X a (upE X.K ta)) (hb : PE X (.BoolOp .Or (b :: rest) pos) (upE X.K tb)) (ma : MoE ta) (mb : MoE tb) :
    PE X (.BoolOp .Or (a :: b :: rest) pos) (upE X.K fun δ η Q => ta δ η fun x η1 => ∃ c, x = .bl c ∧ if c = true then Q (.bl true) η1 else tb δ η1 Q) :=
  pe_imp (pe_or ha hb) fun σ H Q ⟨δ, η, sl, ab, h⟩ => upE.seq ma sl ab h fun x η1 u H1 h t a i sl => by
    obtain ⟨c, rfl, q⟩ := h
    cases i
    refine ⟨c, rfl, ?_⟩
    cases c with
    | false => simp only [Bool.false_eq_true, if_false] at q ⊢; exact upE.seq mb sl a q fun y η2 v H2 h t' a' j sl' => h _ _ (t.trans t') a' j
    | true => simpa using (q.later t).hbl a
theorem se_not (ha : PE X a (upE X.K ta)) (ma : MoE ta) : PE X (.UnaryOp .Not a pos) (upE X.K fun δ η Q => ta δ η fun x η1 => ∃ c, x = .bl c ∧ Q (.bl (!c)) η1) :=
  pe_imp (pe_not ha) fun σ H Q ⟨δ, η, sl, ab, h⟩ => upE.seq ma sl ab h fun x η1 u H1 h t a i sl => by
    obtain ⟨j, rfl, q⟩ := h
    cases i
    exact ⟨j, rfl, (q.later t).hbl a⟩
theorem se_ife {tt : DT} (hc : PT X c (upT X.K tt)) (ha : PE X a (upE X.K ta)) (hb : PE X b (upE X.K tb)) (mt : MoT tt) (ma : MoE ta) (mb : MoE tb) :
    PE X (.IfExp c a b pos) (upE X.K fun δ η Q => tt δ η fun k η1 => if k = true then ta δ η1 Q else tb δ η1 Q) :=
  pe_imp (pe_ifExp hc ha hb) fun σ H Q ⟨δ, η, sl, ab, h⟩ => upT.seq mt sl ab h fun k η1 H1 h t a sl => by
    cases k with
    | true => simp only [if_true] at h ⊢; exact upE.seq ma sl a h fun y η2 v H2 h t' a' j sl' => h _ _ (t.trans t') a' j
    | false => simp only [Bool.false_eq_true, if_false] at h ⊢; exact upE.seq mb sl a h fun y η2 v H2 h t' a' j sl' => h _ _ (t.trans t') a' j
/-- a test of several, whatever its whole is -/
theorem sw_andC {rest : List Expr} {tt uu : DT} (ha : PT X a (upT X.K tt)) (hb : PW X (.BoolOp .And (b :: rest) pos) (upT X.K uu)) (ma : MoT tt) (mb : MoT uu) :
    PW X (.BoolOp .And (a :: b :: rest) pos) (upT X.K fun δ η Q => tt δ η fun c η1 => if c = true then uu δ η1 Q else Q false η1) :=
  pw_imp (pw_and ha hb) fun σ H Q ⟨δ, η, sl, ab, h⟩ => upT.seq ma sl ab h fun c η1 H1 q t a sl => by
    cases c with
    | true => simp only [if_true] at q ⊢; exact upT.seq mb sl a q fun y η2 H2 h t' a' sl' => h _ (t.trans t') a'
    | false => simpa using (show endT X.K H Q false η1 by simpa using q) _ t a
theorem sw_orC {rest : List Expr} {tt uu : DT} (ha : PT X a (upT X.K tt)) (hb : PW X (.BoolOp .Or (b :: rest) pos) (upT X.K uu)) (ma : MoT tt) (mb : MoT uu) :
    PW X (.BoolOp .Or (a :: b :: rest) pos) (upT X.K fun δ η Q => tt δ η fun c η1 => if c = true then Q true η1 else uu δ η1 Q) :=
  pw_imp (pw_or ha hb) fun σ H Q ⟨δ, η, sl, ab, h⟩ => upT.seq ma sl ab h fun c η1 H1 q t a sl => by
    cases c with
    | false => simp only [Bool.false_eq_true, if_false] at q ⊢; exact upT.seq mb sl a q fun y η2 H2 h t' a' sl' => h _ (t.trans t') a'
    | true => simpa using (show endT X.K H Q true η1 by simpa using q) _ t a
theorem st_not {tt : DT} (ha : PT X a (upT X.K tt)) (ma : MoT tt) : PT X (.UnaryOp .Not a pos) (upT X.K fun δ η Q => tt δ η fun c η1 => Q (!c) η1) :=
  pt_imp (pt_not ha) fun σ H Q ⟨δ, η, sl, ab, h⟩ => upT.seq ma sl ab h fun c η1 H1 q t a sl => q _ t a
/-- a value that is a bool, as a test -/
theorem st_val {tt : DT} (ha : PE X a (upE X.K ta)) (k : ∀ δ η Q, tt δ η Q → ta δ η fun x η1 => ∃ b, x = .bl b ∧ Q b η1) (ma : MoE ta) (he : ∀ whole, isTrue a X.env whole = (do let v ← whole; standAt a.pos; holding [v] (truthy v))) :
    PT X a (upT X.K tt) :=
  pt_imp (pt_val ha he) fun σ H Q ⟨δ, η, sl, ab, h⟩ => upE.seq ma sl ab (k _ _ _ h) fun x η1 u H1 h t a i sl => by
    obtain ⟨c, rfl, q⟩ := h
    cases i
    exact ⟨c, rfl, q _ t a⟩
/-! ### subscripts -/
theorem ixR_D : IxR X (up2 X.K idxD) := fun value slice pins s σ H x y v u Q I rx ry h hs => ix_D I rx ry h hs
theorem se_idx (ha : PE X a (upE X.K ta)) (hb : PE X b (upE X.K tb)) (ma : MoE ta) (mb : MoE tb) (hs : PlainIx b) :
    PE X (.Subscript a b pos) (upE X.K fun δ η Q => ta δ η fun x η1 => tb δ η1 fun y η2 => idxD x y η2 Q) :=
  pe_imp (pe_ix ixR_D ha hb hs) fun σ H Q ⟨δ, η, sl, ab, h⟩ => upE.seq ma sl ab h fun x η1 u H1 h t a i sl => upE.seq mb sl a h fun y η2 v H2 h t' a' j sl' =>
    ⟨x, y, η2, i.mono t', j, a', idxD_mono (fun d η h => h.later (t.trans t')) h⟩
theorem so_none : PO X none (upO X.K fun _ η Q => Q none η) := po_imp po_none fun σ H Q ⟨δ, η, sl, ab, h⟩ => h.here ab
theorem so_some (ha : PE X a (upE X.K ta)) (ma : MoE ta) : PO X (some a) (upO X.K fun δ η Q => ta δ η fun x η1 => ∃ i, x = .int i ∧ Q (some i) η1) :=
  po_imp (po_some ha) fun σ H Q ⟨δ, η, sl, ab, h⟩ => upE.seq ma sl ab h fun x η1 u H1 h t a i sl => by
    obtain ⟨c, rfl, q⟩ := h
    cases i
    exact ⟨c, rfl, q _ t a⟩
theorem se_slc {lo hi : Option Expr} {tl th : DO} {p2 : Pos} (ha : PE X a (upE X.K ta)) (hl : PO X lo (upO X.K tl)) (hh : PO X hi (upO X.K th)) (ma : MoE ta) (ml : MoO tl) (mh : MoO th) :
    PE X (.Subscript a (.Slice lo hi none p2) pos) (upE X.K fun δ η Q => ta δ η fun x η1 => tl δ η1 fun l η2 => th δ η2 fun h η3 => slcD x l h η3 Q) :=
  pe_imp (pe_slice sl_D ha hl hh) fun σ H Q ⟨δ, η, sl, ab, h⟩ => upE.seq ma sl ab h fun x η1 u H1 h t a i sl => upO.seq ml sl a h fun l η2 H2 h t2 a2 sl2 => upO.seq mh sl2 a2 h fun r η3 H3 h t3 a3 sl3 =>
    ⟨x, η3, i.mono (t2.trans t3), a3, slcD_mono (fun d η h => h.later ((t.trans t2).trans t3)) h⟩
end
end DL

set_option Elab.async false
set_option linter.all false
set_option maxRecDepth 100000
set_option maxHeartbeats 4000000
/-! DL6: [::-1], displays, argument lists, calls, built-ins, methods. -/
namespace DL
open PySem PySem.Spec PyProof.Rows L2
section
variable {X : Cx} {a b c : Expr} {ta tb tc : DE} {pos : Pos}
/-! ### [::-1] -/
def rR (K : PySem.W.Frag) : V → Hp → VK → Prop := fun v H Q => ∃ x η, IsD K H v x ∧ Abs K η H ∧ revD x η (endE K H Q)
theorem pe_revD {e : Expr} {te : TE} {k : Nat} {p1 p2 p3 : Pos} (he : PE X e te) : PE X (.Subscript e (.Slice none none (some (.UnaryOp .USub (.Constant (.int 1) k p1) p2)) p3) pos) (tUn (rR X.K) te) := by
  refine ⟨fun pins s σ H Q I0 hQ0 => Subscript_ (thn (he.run pins s σ H _ I0 hQ0) fun v s1 ⟨x, H1, I1, r1, q1⟩ => ?_)⟩
  have stp : PO X (some (.UnaryOp .USub (.Constant (.int 1) k p1) p2)) (tPart (tUn (rU fun i => .int (-i)) (tC (.int 1)))) := po_some (pe_un un_neg pe_int)
  refine wpAny_Slice (thn (po_none.run pins s1 σ H1 (fun o H2 => o = none ∧ H2 = H1) I1 ⟨rfl, rfl⟩) fun vl s2 ⟨l, H2, I2, pl, el, e2⟩ => ?_)
  obtain rfl := el
  obtain rfl := e2
  refine thn (po_none.run pins s2 σ H2 (fun o H3 => o = none ∧ H3 = H2) I2 ⟨rfl, rfl⟩) fun vu s3 ⟨u, H3, I3, pu, eu, e3⟩ => ?_
  obtain rfl := eu
  obtain rfl := e3
  refine thn (stp.run pins s3 σ H3 (fun o H4 => o = some (-1) ∧ H4 = H3) I3 ⟨1, rfl, -1, rfl, rfl, rfl⟩) fun vs s4 ⟨o, H4, I4, ps, eo, e4⟩ => ?_
  obtain rfl := eo
  obtain rfl := e4
  have I5 : Inv X pins σ H4 { s4 with heap := s4.heap.push { cls := .type "slice", data := .fields #[vl, vu, vs] } } := I4.kept (t' := s4.toks) fun b ob q => Heap.get?_push_of_some _ q
  have hsl : ({ s4 with heap := s4.heap.push { cls := .type "slice", data := .fields #[vl, vu, vs] } } : Shared).heap.IsSliceOf s4.heap.objs.size vl vu vs := Heap.IsSliceOf.new _ vl vu vs
  obtain ⟨d, η, i, ab, q⟩ := q1
  show wpAny (model X.prog X.w) X.A (subscriptTail e (.Slice none none (some (.UnaryOp .USub (.Constant (.int 1) k p1) p2)) p3) v (.ref s4.heap.objs.size)) (EP X pins σ Q) X.xe { s4 with heap := s4.heap.push { cls := .type "slice", data := .fields #[vl, vu, vs] } }
  generalize hs5 : ({ s4 with heap := s4.heap.push { cls := .type "slice", data := .fields #[vl, vu, vs] } } : Shared) = s5 at I5 hsl ⊢
  have lst : ∀ (l : Addr) (us : List V) (xs : List D), SqL X.K H4 l us → IsDs X.K H4 us xs → v = .ref l → (∀ p, η p = none → endE X.K H4 Q (.ref p) (put η p (.lst xs.reverse))) →
      wpAny (model X.prog X.w) X.A (subscriptTail e (.Slice none none (some (.UnaryOp .USub (.Constant (.int 1) k p1) p2)) p3) v (.ref s4.heap.objs.size)) (EP X pins σ Q) X.xe s5 := fun l us xs hq is ev q => by
    subst ev
    obtain ⟨its, r, ht, hz⟩ := I5.list hq
    have hlen := r.length
    refine tail_any (ops := [.ref l, .ref s4.heap.objs.size]) ht.isList.typeIs (PySem.slot_list_getitem.lookup) ?_ (by with_unfolding_all rfl)
    refine wpAny_getItem_list_slice ht.isList hsl pl pu ps (by decide) ?_ (by rw [List.size_toArray]; omega)
    rw [PySem.W.krv_pick]
    refine ⟨.ref _, _, I5.laid (t' := s5.toks) (o := .lst us.reverse) (fun b ob q => Heap.get?_push_of_some _ q) (Nat.le_refl _) ?_, rfl, endE.nlst q ab is.reverse (I5.hok.fresh (Nat.le_refl _))⟩
    exact ⟨by rw [List.length_reverse]; exact hz, _, 0, r.reverse, Heap.get?_push_size _ rfl⟩
  cases i <;> simp only [revD] at q
  case tup l us ds hq is =>
    cases r1
    obtain ⟨its, r, ht, hz⟩ := I5.tuple hq
    have hlen := r.length
    cases pl; cases pu; cases ps
    refine tail_any (ops := [.ref l, .ref s4.heap.objs.size]) (PySem.Heap.IsTuple.typeIs ht) (PyProof.Rows.slot_tuple_getitem.lookup) ?_ (by with_unfolding_all rfl)
    refine getItem_tuple_rev ht hsl ?_ (by rw [List.size_toArray]; omega)
    refine ⟨.ref _, _, I5.laid (t' := s5.toks) (o := .tup us.reverse) (fun b ob q => Heap.get?_push_of_some _ q) (Nat.le_refl _) ?_, rfl, q.ntup ab is.reverse (I5.hok.fresh (Nat.le_refl _))⟩
    exact ⟨by rw [List.length_reverse]; exact hz, _, r.reverse, ⟨_, Heap.get?_push_size _ rfl, rfl, _, rfl⟩⟩
  case ref l =>
    cases r1
    obtain ⟨xs, e1, q⟩ := q
    obtain ⟨us, e2, is⟩ := lst_of ab e1
    exact lst l us xs (SqL.of e2) is rfl q
/-- a[::-1] -/
theorem se_rev {k : Nat} {p1 p2 p3 : Pos} (ha : PE X a (upE X.K ta)) (ma : MoE ta) : PE X (.Subscript a (.Slice none none (some (.UnaryOp .USub (.Constant (.int 1) k p1) p2)) p3) pos) (upE X.K fun δ η Q => ta δ η fun x η1 => revD x η1 Q) :=
  pe_imp (pe_revD ha) fun σ H Q ⟨δ, η, sl, ab, h⟩ => upE.seq ma sl ab h fun x η1 u H1 h t a i sl => ⟨x, η1, i, a, revD_mono (fun d η h => h.later t) h⟩
/-! ### argument lists, displays -/
def nst : Expr → Bool
  | .Starred _ _ => false
  | _ => true
theorem star_no {e : Expr} {es : List Expr} {env : Env} (h : nst e = true) : starEach (e :: es) env = (false, eval e env) :: starEach es env := by
  cases e <;> first | rfl | cases h
theorem plain_of {pos : Pos} {env : Env} : ∀ {es : List Expr}, es.all nst = true → (backTo pos (starEach es env)).any (·.1) = false
  | [], _ => rfl
  | e :: es, h => by
    rw [List.all_cons, Bool.and_eq_true] at h
    rw [star_no h.1]
    show (false || (backTo pos (starEach es env)).any (·.1)) = false
    rw [plain_of h.2]; rfl
theorem sa_nil : PA X [] (upA X.K fun _ η Q => Q [] η) := pa_imp pa_nil fun σ H Q ⟨δ, η, sl, ab, h⟩ => h.here ab .nil
theorem sa_cons {es : List Expr} {t : DA} (ha : PE X a (upE X.K ta)) (hr : PA X es (upA X.K t)) (ma : MoE ta) (mr : MoA t) (hs : nst a = true) :
    PA X (a :: es) (upA X.K fun δ η Q => ta δ η fun x η1 => t δ η1 fun xs η2 => Q (x :: xs) η2) :=
  pa_imp (pa_cons ha hr (star_no hs)) fun σ H Q ⟨δ, η, sl, ab, h⟩ => upE.seq ma sl ab h fun x η1 u H1 h t a i sl => upA.seq mr sl a h fun xs η2 us H2 h t' a' is sl' =>
    h _ _ (t.trans t') a' (.cons (i.mono t') is)
theorem sa_star {es : List Expr} {t : DA} {p : Pos} (ha : PE X a (upE X.K ta)) (hr : PA X es (upA X.K t)) (ma : MoE ta) (mr : MoA t) :
    PA X (.Starred a p :: es) (upA X.K fun δ η Q => ta δ η fun x η1 => ∃ ys, seqD x η1 ys ∧ t δ η1 fun xs η2 => Q (ys ++ xs) η2) :=
  pa_imp (StX.pa_star ha hr) fun σ H Q ⟨δ, η, sl, ab, h⟩ => upE.seq ma sl ab h fun x η1 u H1 h t a i sl => by
    obtain ⟨ys, hy, h⟩ := h
    obtain ⟨l, vs, rfl, hq, is⟩ := seq_of a i hy
    exact ⟨l, vs, rfl, hq.symm, upA.seq mr sl a h fun xs η2 us H2 h t' a' js sl' => h _ _ (t.trans t') a' ((is.mono t').append js)⟩
theorem se_tup {es : List Expr} {t : DA} {k : Nat} (h : PA X es (upA X.K t)) (m : MoA t) : PE X (.Tuple es k pos) (upE X.K fun δ η Q => t δ η fun xs η1 => xs.length ≤ sizeLine ∧ Q (.tup xs) η1) :=
  pe_imp (pe_tup h) fun σ H Q ⟨δ, η, sl, ab, h⟩ => upA.seq m sl ab h fun xs η1 us H1 h t a is sl => ⟨by rw [is.length]; exact h.1, fun p hp => (h.2.later t).ntup a is hp⟩
theorem se_lst {es : List Expr} {t : DA} (h : PA X es (upA X.K t)) (m : MoA t) : PE X (.List es pos) (upE X.K fun δ η Q => t δ η fun xs η1 => xs.length ≤ sizeLine ∧ ∀ p, η1 p = none → Q (.ref p) (put η1 p (.lst xs))) :=
  pe_imp (pe_lst h) fun σ H Q ⟨δ, η, sl, ab, h⟩ => upA.seq m sl ab h fun xs η1 us H1 h t a is sl => ⟨by rw [is.length]; exact h.1, fun p hp => endE.nlst (fun p hp => (h.2 p hp).later t) a is hp⟩
theorem se_dic : PE X (.Dict [] [] pos) (upE X.K fun _ η Q => ∀ p, η p = none → Q (.ref p) (put η p (.dK []))) :=
  pe_imp pe_dnewK fun σ H Q ⟨δ, η, sl, ab, h⟩ p hp =>
    have t : TpM X.K H (L2.upd H p (.dK [])) := TpM.new hp
    h p (ab.free hp) _ _ t (ab.put t ⟨[], upd_same, rfl, .nil⟩) (.ref p)
/-! ### calls -/
theorem se_blt {f : BN} {x : Str} {p : Pos} {e : Expr} {es : List Expr} {t : DA} (hc : X.calm = true) (hg : X.A.guards = some []) (hu : X.A.units + 100 < cLine) (hx : x = Str.ofString f.id) (gl : Gl X x) (hm : X.mg x = none)
    (ha : PA X (e :: es) (upA X.K t)) (m : MoA t) (hs : (e :: es).all nst = true) :
    PE X (.Call (.Name x p) (e :: es) [] pos) (upE X.K fun δ η Q => t δ η fun xs η1 => bltD f xs η1 fun d η2 => ∃ η3, Sub η3 η2 ∧ Q d η3) := by
  have h1 : nst e = true ∧ es.all nst = true := by rw [List.all_cons, Bool.and_eq_true] at hs; exact hs
  have hv : bootBuiltins x = some f.v := by subst hx; cases f <;> decide +kernel
  have hn : x ≠ "__name__" := by subst hx; cases f <;> decide +kernel
  have hd : (x == ("__debug__" : Str)) = false := by subst hx; cases f <;> decide +kernel
  have key : ∀ (σ : L2.St) (H : Hp) (Q : VK), upE X.K (fun δ η Q => t δ η fun xs η1 => bltD f xs η1 fun d η2 => ∃ η3, Sub η3 η2 ∧ Q d η3) σ H Q → tCB (upC X.K (bltD f)) (upA X.K t) σ H Q := fun σ H Q ⟨δ, η, sl, ab, h⟩ =>
    upA.seq m sl ab h fun xs η1 us H1 h t a is sl => ⟨xs, η1, is, a, bltD_mono (fun d η ⟨η3, s, h⟩ => show endE _ _ _ _ _ from fun u H' t' a' i' => h u H' (t.trans t') (a'.sub s) i') h⟩
  have hb := blt_D f hc hg hu
  by_cases ht : f.ty = true
  · unfold BN.v at hv hb
    rw [if_pos ht] at hv hb
    exact pe_imp (pe_callTy hb gl hm hv ha hn hd (star_no h1.1) (plain_of h1.2)) key
  · unfold BN.v at hv hb
    rw [if_neg ht] at hv hb
    exact pe_imp (pe_callB hb gl hm hv ha hn hd (star_no h1.1) (plain_of h1.2)) key
theorem se_isI {T : String} {x y : Str} {p p2 : Pos} (hT : clsOk T = true) (hx : x = Str.ofString "isinstance") (hy : y = Str.ofString T) (gl : Gl X x) (hm : X.mg x = none) (gy : Gl X y) (my : X.mg y = none) (ha : PE X a (upE X.K ta)) (ma : MoE ta) (hs : nst a = true) :
    PE X (.Call (.Name x p) [a, .Name y p2] [] pos) (upE X.K fun δ η Q => ta δ η fun x η1 => ∃ c, clsD x η1 c ∧ Q (.bl (isCls c T)) η1) := by
  have hv : bootBuiltins x = some (.builtin "isinstance") := by subst hx; decide +kernel
  have hn : x ≠ "__name__" := by subst hx; decide +kernel
  have hd : (x == ("__debug__" : Str)) = false := by subst hx; decide +kernel
  have hT' := hT
  simp only [clsOk, Bool.or_eq_true, beq_iff_eq] at hT'
  have hv2 : bootBuiltins y = some (.type T) := by subst hy; rcases hT' with ((((h | h) | h) | h) | h) | h <;> subst h <;> decide +kernel
  have hn2 : y ≠ "__name__" := by subst hy; rcases hT' with ((((h | h) | h) | h) | h) | h <;> subst h <;> decide +kernel
  have hd2 : (y == ("__debug__" : Str)) = false := by subst hy; rcases hT' with ((((h | h) | h) | h) | h) | h <;> subst h <;> decide +kernel
  refine pe_imp (pe_callB (isI_D hT) gl hm hv (pa_cons ha (pa_cons (pe_bltn (v := .ty T) gy my hv2 rfl hn2 hd2) pa_nil rfl) (star_no hs)) hn hd (star_no hs) rfl) fun σ H Q ⟨δ, η, sl, ab, h⟩ => ?_
  exact upE.seq ma sl ab h fun d η1 u H1 h t a i sl => ⟨u, d, η1, h.choose, rfl, i, a, h.choose_spec.1, (h.choose_spec.2.later t).hbl a⟩
/-- a def of the module: what its call asks, with positional arguments, with all by their names -/
structure Cal (X : Cx) (p : List D → Sto → DK → Prop) (x : Str) (ps : List Str) (f : Addr) : Prop where
  mg : X.mg x = some (.ref f)
  kp : PySem.W.keepIn X.K (.ref f) = true
  run : CallR X (.ref f) (upC X.K p)
  kw : ∀ (pins : List (Addr × Obj)) (s : Shared) (σ : L2.St) (H : Hp) (vs : List V) (us : List Value) (Q : VK), Inv X pins σ H s → Vals vs us → upC X.K p vs H Q → wpAny (model X.prog X.w) X.A (call (.ref f) [] (ps.zip us)) (EP X pins σ Q) X.xe s
theorem upC_of {K : PySem.W.Frag} {p : List D → Sto → DK → Prop} (mp : ∀ xs η Q Q', LeD Q Q' → p xs η Q → p xs η Q') {t : DA} (m : MoA t) {σ : L2.St} {H : Hp} {Q : VK} (h : upE K (fun δ η Q => t δ η fun xs η1 => p xs η1 Q) σ H Q) : upA K t σ H fun vs H1 => upC K p vs H1 Q := by
  obtain ⟨δ, η, sl, ab, h⟩ := h
  exact upA.seq m sl ab h fun xs η1 us H1 h t a is sl => ⟨xs, η1, is, a, mp _ _ _ _ (fun d η h => h.later t) h⟩
theorem se_call {p : List D → Sto → DK → Prop} {x : Str} {ps : List Str} {f : Addr} {np : Pos} {e : Expr} {es : List Expr} {t : DA} (cl : Cal X p x ps f) (mp : ∀ xs η Q Q', LeD Q Q' → p xs η Q → p xs η Q') (gl : Gl X x) (ha : PA X (e :: es) (upA X.K t)) (m : MoA t) (hs : (e :: es).all nst = true) (hd : (x == ("__debug__" : Str)) = false) :
    PE X (.Call (.Name x np) (e :: es) [] pos) (upE X.K fun δ η Q => t δ η fun xs η1 => p xs η1 Q) := by
  refine ⟨fun pins s σ H Q I0 hQ0 => wpAny_Call_Name_kw (ld_glob I0 gl cl.mg ?_ hd)⟩
  have key := upC_of mp m hQ0
  rw [List.all_cons, Bool.and_eq_true] at hs
  refine PySem.W.callWith_K (h₀ := X.base) I0.ok.mod.kin cl.kp (thn (ha.run pos pins s σ H _ I0 key) fun us s1 ⟨vs, H1, I1, r, q⟩ => ⟨I1.kIn, ?_⟩) (star_no hs.1) (plain_of hs.2)
  exact cl.run pins s1 σ H1 vs us Q I1 r q
theorem se_call0 {p : List D → Sto → DK → Prop} {x : Str} {ps : List Str} {f : Addr} {np : Pos} (cl : Cal X p x ps f) (gl : Gl X x) (hd : (x == ("__debug__" : Str)) = false) :
    PE X (.Call (.Name x np) [] [] pos) (upE X.K fun δ η Q => p [] η Q) := by
  refine ⟨fun pins s σ H Q I0 hQ0 => wpAny_Call_Name_kw (ld_glob I0 gl cl.mg ?_ hd)⟩
  obtain ⟨δ, η, sl, ab, h⟩ := hQ0
  exact PySem.W.callWith_K0 I0.kIn cl.kp (cl.run pins s σ H [] [] Q I0 .nil ⟨[], η, .nil, ab, h⟩)
/-! keywords only -/
def kwOf : List Keyword → List Str → Bool
  | [], [] => true
  | ⟨some n, _, _⟩ :: r, p :: ps => n == p && kwOf r ps
  | _, _ => false
theorem kw_names {pos : Pos} {env : Env} : ∀ {kws : List Keyword} {ps : List Str}, kwOf kws ps = true → (backToKw pos (keywordEach kws env)).all (·.1.isSome) = true ∧ (backToKw pos (keywordEach kws env)).filterMap (·.1) = ps ∧ (backToKw pos (keywordEach kws env)).any (·.1.isNone) = false
  | [], [], _ => ⟨rfl, rfl, rfl⟩
  | ⟨some n, v, q⟩ :: r, p :: ps, h => by
    rw [kwOf, Bool.and_eq_true, beq_iff_eq] at h
    obtain ⟨h1, h2, h3⟩ := kw_names (pos := pos) (env := env) h.2
    refine ⟨?_, ?_, ?_⟩
    · show (true && (backToKw pos (keywordEach r env)).all (·.1.isSome)) = true
      rw [h1]; rfl
    · show n :: (backToKw pos (keywordEach r env)).filterMap (·.1) = p :: ps
      rw [h2, h.1]
    · show (false || (backToKw pos (keywordEach r env)).any (·.1.isNone)) = false
      rw [h3]; rfl
  | ⟨none, _, _⟩ :: _, _, h => by simp [kwOf] at h
  | ⟨some _, _, _⟩ :: _, [], h => by simp [kwOf] at h
  | [], _ :: _, h => by simp [kwOf] at h
theorem sk_nil : PK X [] (upA X.K fun _ η Q => Q [] η) := ⟨fun pos pins s σ H Q I q => pk_nil.run pos pins s σ H Q I (let ⟨δ, η, sl, ab, h⟩ := q; h.here ab .nil)⟩
theorem sk_cons {kws : List Keyword} {t : DA} {nm : Option Str} {kp : Pos} (ha : PE X a (upE X.K ta)) (hr : PK X kws (upA X.K t)) (ma : MoE ta) (mr : MoA t) :
    PK X (⟨nm, a, kp⟩ :: kws) (upA X.K fun δ η Q => ta δ η fun x η1 => t δ η1 fun xs η2 => Q (x :: xs) η2) :=
  ⟨fun pos pins s σ H Q I q => (pk_cons ha hr).run pos pins s σ H Q I (by
    obtain ⟨δ, η, sl, ab, h⟩ := q
    exact upE.seq ma sl ab h fun x η1 u H1 h t a i sl => upA.seq mr sl a h fun xs η2 us H2 h t' a' is sl' => h _ _ (t.trans t') a' (.cons (i.mono t') is))⟩
theorem se_callk {p : List D → Sto → DK → Prop} {x : Str} {ps : List Str} {f : Addr} {np : Pos} {kws : List Keyword} {t : DA} (cl : Cal X p x ps f) (mp : ∀ xs η Q Q', LeD Q Q' → p xs η Q → p xs η Q') (gl : Gl X x) (ha : PK X kws (upA X.K t)) (m : MoA t) (hk : kwOf kws ps = true) (hd : (x == ("__debug__" : Str)) = false) :
    PE X (.Call (.Name x np) [] kws pos) (upE X.K fun δ η Q => t δ η fun xs η1 => p xs η1 Q) := by
  refine ⟨fun pins s σ H Q I0 hQ0 => wpAny_Call_Name_kw (ld_glob I0 gl cl.mg ?_ hd)⟩
  have key := upC_of mp m hQ0
  obtain ⟨h1, h2, h3⟩ := kw_names (pos := pos) (env := X.env) hk
  refine PySem.W.callWith_KW0 (h₀ := X.base) I0.ok.mod.kin cl.kp h1 (thn (ha.run pos pins s σ H _ I0 key) fun us s1 ⟨vs, H1, I1, r, q⟩ => ⟨I1.kIn, ?_⟩) (by rw [h3]; rfl)
  rw [h2]
  exact cl.kw pins s1 σ H1 vs us Q I1 r q
end
end DL

set_option Elab.async false
set_option linter.all false
set_option maxRecDepth 100000
set_option maxHeartbeats 4000000
/-! DL7: ranges, methods, targets, what loops walk. -/
namespace DL
open PySem PySem.Spec PyProof.Rows L2
section
variable {X : Cx} {a b c : Expr} {ta tb tc : DE} {pos : Pos}
/-! ### list(range(..)), tuple(range(..)) -/
theorem rg_is {K : PySem.W.Frag} {H : Hp} (lo hi : Int) : IsDs K H (rgV lo hi) (rngD lo hi) := by
  unfold rgV rngD
  generalize (hi - lo).toNat = n
  generalize List.range n = l
  induction l with
  | nil => exact .nil
  | cons i l ih => exact .cons (.int _) ih
def tRgD (t : DSt → Sto → (Int → Int → Sto → Prop) → Prop) (tp : Bool) : DE := fun δ η Q => t δ η fun lo hi η2 => (hi - lo).toNat ≤ sizeLine ∧ if tp = true then Q (.tup (rngD lo hi)) η2 else ∀ p, η2 p = none → Q (.ref p) (put η2 p (.lst (rngD lo hi)))
theorem rg_end {K : PySem.W.Frag} {H H1 : Hp} {η : Sto} {lo hi : Int} {tp : Bool} {Q : VK} (t : TpM K H H1) (a : Abs K η H1) (h1 : inR lo) (h2 : inR hi)
    (h : (hi - lo).toNat ≤ sizeLine ∧ if tp = true then endE K H Q (.tup (rngD lo hi)) η else ∀ p, η p = none → endE K H Q (.ref p) (put η p (.lst (rngD lo hi)))) :
    RgOk lo hi ∧ ∀ q, H1 q = none → Q (.ref q) (upd H1 q (if tp = true then .tup (rgV lo hi) else .lst (rgV lo hi))) := by
  have e := sizeLine_eq
  refine ⟨⟨h1.1, h1.2, h2.1, h2.2, by have := h.1; omega⟩, fun q hq => ?_⟩
  cases tp with
  | true => simpa using ((show endE K H Q _ η by simpa using h.2).later t).ntup a (rg_is lo hi) hq
  | false => simpa using endE.nlst (fun p hp => ((show ∀ p, η p = none → endE K H Q (.ref p) (put η p (.lst (rngD lo hi))) by simpa using h.2) p hp).later t) a (rg_is lo hi) hq
theorem se_rgOf {tp : Bool} {x : Str} {np : Pos} {e : Expr} {t : DSt → Sto → (Int → Int → Sto → Prop) → Prop} {te : L2.St → Hp → (Int → Int → Hp → Prop) → Prop} (hc : X.calm = true) (hx : x = Str.ofString (if tp = true then "tuple" else "list")) (gl : Gl X x) (hm : X.mg x = none) (hs : nst e = true) (he : PRg X e te)
    (k : ∀ σ H δ η Q, Sl X.K H σ δ → Abs X.K η H → tRgD t tp δ η (endE X.K H Q) → te σ H fun lo hi H1 => RgOk lo hi ∧ ∀ q, H1 q = none → Q (.ref q) (upd H1 q (if tp = true then .tup (rgV lo hi) else .lst (rgV lo hi)))) :
    PE X (.Call (.Name x np) [e] [] pos) (upE X.K (tRgD t tp)) := by
  cases tp with
  | true =>
    have hx' : x = ("tuple" : Str) := hx
    subst hx'
    exact pe_imp (pe_tupRg hc gl hm he (star_no hs)) fun σ H Q ⟨δ, η, sl, ab, h⟩ => by simpa [tTupRg] using k σ H δ η Q sl ab h
  | false =>
    have hx' : x = ("list" : Str) := hx
    subst hx'
    exact pe_imp (pe_listRg hc gl hm he (star_no hs)) fun σ H Q ⟨δ, η, sl, ab, h⟩ => by simpa [tLstRg] using k σ H δ η Q sl ab h
theorem rgD_in {xs : List D} {η : Sto} {Q : Int → Int → Sto → Prop} (h : rgD xs η Q) : rgD xs η fun lo hi η2 => (inR lo ∧ inR hi) ∧ Q lo hi η2 := by
  rcases xs with _ | ⟨x, _ | ⟨y, _ | ⟨z, r⟩⟩⟩
  · simp [rgD] at h
  · cases x <;> simp only [rgD] at h ⊢
    exact ⟨h.1, ⟨⟨by decide, by decide⟩, h.1⟩, h.2⟩
  · cases x <;> cases y <;> simp only [rgD] at h ⊢
    exact ⟨h.1, h.2.1, ⟨h.1, h.2.1⟩, h.2.2⟩
  · cases x <;> cases y <;> simp [rgD] at h
theorem se_rng1 {tp : Bool} {x y : Str} {np np2 pos2 : Pos} (hc : X.calm = true) (hx : x = Str.ofString (if tp = true then "tuple" else "list")) (hy : y = Str.ofString "range") (gl : Gl X x) (hm : X.mg x = none) (gy : Gl X y) (my : X.mg y = none) (ha : PE X a (upE X.K ta)) (ma : MoE ta) (hs : nst a = true) :
    PE X (.Call (.Name x np) [.Call (.Name y np2) [a] [] pos2] [] pos) (upE X.K (tRgD (fun δ η Q => ta δ η fun v η1 => rgD [v] η1 Q) tp)) := by
  have hy' : y = ("range" : Str) := hy
  subst hy'
  refine se_rgOf hc hx gl hm rfl (prg_1 gy my ha (star_no hs)) fun σ H δ η Q sl ab h => ?_
  exact upE.seq ma sl ab h fun v η1 u H1 h t a i sl => by
    have h' := rgD_in h
    cases i <;> simp only [rgD] at h'
    exact ⟨_, rfl, rg_end t a h'.2.1.1 h'.2.1.2 h'.2.2⟩
theorem se_rng2 {tp : Bool} {x y : Str} {np np2 pos2 : Pos} (hc : X.calm = true) (hx : x = Str.ofString (if tp = true then "tuple" else "list")) (hy : y = Str.ofString "range") (gl : Gl X x) (hm : X.mg x = none) (gy : Gl X y) (my : X.mg y = none) (ha : PE X a (upE X.K ta)) (hb : PE X b (upE X.K tb)) (ma : MoE ta) (mb : MoE tb) (hs : nst a = true) (hs2 : nst b = true) :
    PE X (.Call (.Name x np) [.Call (.Name y np2) [a, b] [] pos2] [] pos) (upE X.K (tRgD (fun δ η Q => ta δ η fun v η1 => tb δ η1 fun w η2 => rgD [v, w] η2 Q) tp)) := by
  have hy' : y = ("range" : Str) := hy
  subst hy'
  refine se_rgOf hc hx gl hm rfl (prg_2 gy my ha hb (star_no hs) (star_no hs2) (plain_of (by simp [hs2]))) fun σ H δ η Q sl ab h => ?_
  exact upE.seq ma sl ab h fun v η1 u H1 h t a i sl => upE.seq mb sl a h fun w η2 u2 H2 h t' a' j sl' => by
    have h' := rgD_in h
    cases i <;> cases j <;> simp only [rgD] at h'
    exact ⟨_, _, rfl, rfl, rg_end (t.trans t') a' h'.2.2.1.1 h'.2.2.1.2 h'.2.2.2⟩
/-! ### methods of lists -/
def mOk (m : MN) (n : Nat) : Bool := match m with
  | .append => n == 1
  | .extend => n == 1
  | .pop => n == 0 || n == 1
  | _ => false
def MN.id : MN → String
  | .append => "append" | .extend => "extend" | .insert => "insert" | .pop => "pop" | .index => "index" | .count => "count" | .remove => "remove" | .join => "join" | .split => "split"
def ncall : Expr → Bool
  | .Call _ _ _ _ => false
  | _ => true
theorem base_of {o : Expr} {x : Str} {env : Env} {w : Sem Value} (h : ncall o = true) : attributeBase o x env w = w := by
  cases o <;> first | rfl | cases h
theorem few_of {cpos : Pos} {env : Env} {e : Expr} (h : nst e = true) : ((backTo cpos (starEach [e] env)).all (fun x => !x.1) && (backToKw cpos (keywordEach [] env)).all (fun x => x.1.isSome) && decide ([e].length + ([] : List Keyword).length + (if ([] : List Keyword).isEmpty then 0 else 1) < 30)) = true := by
  rw [star_no h]; rfl
theorem tyV_ofD {K : PySem.W.Frag} {H : Hp} {η : Sto} {v : V} {d : D} {m : MN} (hm : m = .append ∨ m = .extend ∨ m = .pop) (i : IsD K H v d) (ab : Abs K η H) (h : tyD m d η) : tyV K "list" v H := by
  rcases hm with rfl | rfl | rfl <;> cases i <;> simp only [tyD] at h <;> (obtain ⟨xs, h⟩ := h; obtain ⟨vs, e, _⟩ := lst_of ab h; exact .inl ⟨rfl, vs, SqL.of e⟩)
theorem se_mth1 {m : MN} {x : Str} {apos : Pos} (hm : m = .append ∨ m = .extend ∨ m = .pop) (hx : x = Str.ofString m.id) (ha : PE X a (upE X.K ta)) (hb : PE X b (upE X.K tb)) (ma : MoE ta) (mb : MoE tb) (hn : ncall a = true) (hs : nst b = true) (hl : (apos.endLine == pos.line) = true) :
    PE X (.Call (.Attribute a x apos) [b] [] pos) (upE X.K fun δ η Q => ta δ η fun x η1 => tyD m x η1 ∧ tb δ η1 fun y η2 => mthD m x [y] η2 Q) := by
  subst hx
  have key : ∀ (σ : L2.St) (H : Hp) (Q : VK), upE X.K (fun δ η Q => ta δ η fun x η1 => tyD m x η1 ∧ tb δ η1 fun y η2 => mthD m x [y] η2 Q) σ H Q → tBM X.K "list" (upM X.K (mthD m)) (upE X.K ta) (tCons (upE X.K tb) tNil) σ H Q := fun σ H Q ⟨δ, η, sl, ab, h⟩ =>
    upE.seq ma sl ab h fun x η1 u H1 h t a i sl => ⟨tyV_ofD hm i a h.1, upE.seq mb sl a h.2 fun y η2 w H2 h t' a' j sl' => ⟨x, [y], η2, i.mono t', .cons j .nil, a', mthD_mono (fun d η h => h.later (t.trans t')) h⟩⟩
  have pa := pa_cons hb pa_nil (star_no hs)
  rcases hm with rfl | rfl | rfl
  · exact pe_imp (pe_bm PySem.F.plainAttrs_list PySem.F.slot_list_append PySem.F.type_list_append mt_appendD ha pa (base_of hn) (few_of hs) hl (star_no hs) rfl) key
  · exact pe_imp (pe_bm PySem.F.plainAttrs_list PySem.F.slot_list_extend PySem.F.type_list_extend mt_extendD ha pa (base_of hn) (few_of hs) hl (star_no hs) rfl) key
  · exact pe_imp (pe_bm PySem.F.plainAttrs_list PySem.F.slot_list_pop PySem.F.type_list_pop mt_popD ha pa (base_of hn) (few_of hs) hl (star_no hs) rfl) key
theorem se_mth0 {x : Str} {apos : Pos} (hx : x = Str.ofString "pop") (ha : PE X a (upE X.K ta)) (ma : MoE ta) (hn : ncall a = true) (hl : (apos.endLine == pos.line) = true) :
    PE X (.Call (.Attribute a x apos) [] [] pos) (upE X.K fun δ η Q => ta δ η fun x η1 => tyD .pop x η1 ∧ mthD .pop x [] η1 Q) := by
  subst hx
  exact pe_imp (pe_bm0 PySem.F.plainAttrs_list PySem.F.slot_list_pop PySem.F.type_list_pop mt_popD ha (base_of hn) hl) fun σ H Q ⟨δ, η, sl, ab, h⟩ =>
    upE.seq ma sl ab h fun x η1 u H1 h t a i sl => ⟨tyV_ofD (.inr (.inr rfl)) i a h.1, ⟨x, [], η1, i, .nil, a, mthD_mono (fun d η h => h.later t) h.2⟩⟩
/-! ### targets -/
theorem wipe_get {σ : L2.St} : ∀ {vs : List Nat} {j : Nat}, (wipe σ vs)[j]? = if j ∈ vs ∧ j < σ.length then some none else σ[j]?
  | [], j => by simp [wipe]
  | v :: vs, j => by
    unfold wipe
    by_cases e : v = j
    · subst e
      by_cases hl : v < σ.length
      · rw [List.getElem?_set_self (by rw [wipe_length]; exact hl), if_pos ⟨List.mem_cons_self, hl⟩]
      · rw [if_neg (fun q => hl q.2), List.getElem?_eq_none (by rw [List.length_set, wipe_length]; omega), List.getElem?_eq_none (by omega)]
    · rw [List.getElem?_set_ne e, wipe_get]
      by_cases hm : j ∈ vs ∧ j < σ.length
      · rw [if_pos hm, if_pos ⟨List.mem_cons_of_mem _ hm.1, hm.2⟩]
      · rw [if_neg hm, if_neg]
        rintro ⟨q1, q2⟩
        rcases List.mem_cons.mp q1 with q1 | q1
        · exact e q1.symm
        · exact hm ⟨q1, q2⟩
theorem wipe_set {σ : L2.St} {vs : List Nat} {i : Nat} {v : Option V} (h : i ∈ vs) : wipe (σ.set i v) vs = wipe σ vs := by
  apply List.ext_getElem?
  intro j
  rw [wipe_get, wipe_get, List.length_set]
  by_cases hm : j ∈ vs ∧ j < σ.length
  · rw [if_pos hm, if_pos hm]
  · rw [if_neg hm, if_neg hm]
    by_cases e : i = j
    · subst e
      have hl : ¬ i < σ.length := fun q => hm ⟨h, q⟩
      rw [List.getElem?_eq_none (by rw [List.length_set]; omega), List.getElem?_eq_none (by omega)]
    · rw [List.getElem?_set_ne e]
theorem dwipe_length (δ : DSt) : ∀ vs : List Nat, (dwipe δ vs).length = δ.length
  | [] => rfl
  | v :: vs => by rw [dwipe, List.length_set, dwipe_length δ vs]
theorem dwipe_get {δ : DSt} : ∀ {vs : List Nat} {j : Nat}, (dwipe δ vs)[j]? = if j ∈ vs ∧ j < δ.length then some none else δ[j]?
  | [], j => by simp [dwipe]
  | v :: vs, j => by
    unfold dwipe
    by_cases e : v = j
    · subst e
      by_cases hl : v < δ.length
      · rw [List.getElem?_set_self (by rw [dwipe_length]; exact hl), if_pos ⟨List.mem_cons_self, hl⟩]
      · rw [if_neg (fun q => hl q.2), List.getElem?_eq_none (by rw [List.length_set, dwipe_length]; omega), List.getElem?_eq_none (by omega)]
    · rw [List.getElem?_set_ne e, dwipe_get]
      by_cases hm : j ∈ vs ∧ j < δ.length
      · rw [if_pos hm, if_pos ⟨List.mem_cons_of_mem _ hm.1, hm.2⟩]
      · rw [if_neg hm, if_neg]
        rintro ⟨q1, q2⟩
        rcases List.mem_cons.mp q1 with q1 | q1
        · exact e q1.symm
        · exact hm ⟨q1, q2⟩
theorem Sl.wipe {K : PySem.W.Frag} {H : Hp} {σ : L2.St} {δ : DSt} (h : Sl K H σ δ) (vs : List Nat) : Sl K H (L2.wipe σ vs) (dwipe δ vs) := by
  refine ⟨by rw [wipe_length, dwipe_length, h.1], fun i d e => ?_⟩
  rw [dwipe_get] at e
  rw [wipe_get]
  by_cases hm : i ∈ vs ∧ i < δ.length
  · rw [if_pos hm] at e; cases e
  · rw [if_neg hm] at e
    rw [if_neg (by rw [h.1]; exact hm)]
    exact h.2 i d e
def endW (K : PySem.W.Frag) (H : Hp) (vs : List Nat) (σ : L2.St) (Q : L2.St → Hp → Prop) : DSt → Sto → Prop := fun δ η => ∀ σ' H', TpM K H H' → Abs K η H' → Sl K H' σ' δ → wipe σ' vs = wipe σ vs → Q σ' H'
def upW (K : PySem.W.Frag) (vs : List Nat) (t : DG) : TG := fun v σ H Q => ∃ d δ η, IsD K H v d ∧ Sl K H σ δ ∧ Abs K η H ∧ t d δ η (endW K H vs σ Q)
def upWs (K : PySem.W.Frag) (vs : List Nat) (t : DGs) : TGs := fun us σ H Q => ∃ ds δ η, IsDs K H us ds ∧ Sl K H σ δ ∧ Abs K η H ∧ t ds δ η (endW K H vs σ Q)
theorem sg_name {i : Nat} {x : Str} {vs : List Nat} (hN : X.N.Nodup) (hi : X.N[i]? = some x) (hx : Loc X.env.scope x) (hf : X.fn x = true ∨ X.env.scope.names.lookup x = some .local) (hv : i ∈ vs) :
    PG X (.Name x pos) (upW X.K vs fun v δ η Q => Q (δ.set i (some v)) η) :=
  pg_imp (pg_name hN hi hx hf) fun v σ H Q ⟨d, δ, η, id, sl, ab, h⟩ => h _ _ (TpM.refl _ _) ab (sl.set i id) (wipe_set hv)
theorem sgs_nil {vs : List Nat} : PGs X [] (upWs X.K vs fun us δ η Q => us = [] ∧ Q δ η) :=
  pgs_imp pgs_nil fun us σ H Q ⟨ds, δ, η, is, sl, ab, e, h⟩ => by
    subst e
    cases is
    exact ⟨rfl, h _ _ (TpM.refl _ _) ab sl rfl⟩
theorem each_no {e : Expr} {es : List Expr} {env : Env} (h : nst e = true) : assignEach (e :: es) env = (false, assign e env) :: assignEach es env := by
  cases e <;> first | rfl | cases h
theorem sgs_cons {e : Expr} {es : List Expr} {vs : List Nat} {t : DG} {u : DGs} (h1 : PG X e (upW X.K vs t)) (h2 : PGs X es (upWs X.K vs u)) (m1 : MoG t) (m2 : MoGs u) (hs : nst e = true) :
    PGs X (e :: es) (upWs X.K vs fun us δ η Q => ∃ v r, us = v :: r ∧ t v δ η fun δ1 η1 => u r δ1 η1 Q) :=
  pgs_imp (pgs_cons h1 h2 (by rw [each_no hs]; rfl)) fun us σ H Q ⟨ds, δ, η, is, sl, ab, v, r, e, h⟩ => by
    subst e
    cases is with
    | cons i is =>
      refine ⟨_, _, rfl, v, δ, η, i, sl, ab, m1 _ _ _ _ _ (fun δ1 η1 h => ?_) h⟩
      intro σ1 H1 t1 a1 sl1 w1
      exact ⟨r, δ1, η1, is.mono t1, sl1, a1, m2 _ _ _ _ _ (fun δ2 η2 h σ2 H2 t2 a2 sl2 w2 => h _ _ (t1.trans t2) a2 sl2 (w2.trans w1)) h⟩
theorem each_all {env : Env} : ∀ {es : List Expr}, es.all nst = true → (assignEach es env).length = es.length ∧ (assignEach es env).findIdx? (·.1) = none
  | [], _ => ⟨rfl, rfl⟩
  | e :: es, h => by
    rw [List.all_cons, Bool.and_eq_true] at h
    obtain ⟨h1, h2⟩ := each_all (env := env) h.2
    rw [each_no h.1]
    refine ⟨by rw [List.length_cons, h1, List.length_cons], ?_⟩
    rw [List.findIdx?_cons]
    simp [h2]
theorem sg_tup {es : List Expr} {k : Nat} {vs : List Nat} {t : DGs} (hc : X.calm = true) (h : PGs X es (upWs X.K vs t)) (m : MoGs t) (hs : es.all nst = true) {n : Nat} (hl : n = es.length) :
    PG X (.Tuple es k pos) (upW X.K vs fun v δ η Q => ∃ xs, v = .tup xs ∧ xs.length = n ∧ t xs δ η Q) :=
  pg_imp (pg_tup hc h (each_all hs).1 (each_all hs).2) fun v σ H Q ⟨d, δ, η, i, sl, ab, xs, e, el, h⟩ => by
    subst e
    cases i with
    | tup hq is => exact ⟨_, _, rfl, hq, by rw [is.length, el]; exact hl, xs, δ, η, is, sl, ab, h⟩
theorem sg_sub {vs : List Nat} (ha : PE X a (upE X.K ta)) (hb : PE X b (upE X.K tb)) (ma : MoE ta) (mb : MoE tb) (hp : ∀ l u s p, b ≠ .Slice l u s p) :
    PG X (.Subscript a b pos) (upW X.K vs fun v δ η Q => ta δ η fun x η1 => tb δ η1 fun y η2 => setD x y v η2 fun η3 => Q δ η3) := by
  refine pg_imp (pg_sub ha hb set_D (fun v => ?_)) fun v σ H Q ⟨d, δ, η, i, sl, ab, h⟩ => ?_
  · rw [arm_assign_Subscript]
    cases b <;> first | rfl | exact absurd rfl (hp _ _ _ _)
  · exact upE.seq ma sl ab h fun x η1 u H1 h t a j sl1 => upE.seq mb sl1 a h fun y η2 w H2 h t' a' k sl2 =>
      ⟨x, y, d, η2, j.mono t', k, i.mono (t.trans t'), a', setD_mono (fun η3 h => show ∀ H', _ from fun H3 t3 a3 => h _ _ ((t.trans t').trans t3) a3 (sl2.mono t3) rfl) h⟩
end
end DL

set_option Elab.async false
set_option linter.all false
set_option maxRecDepth 100000
set_option maxHeartbeats 4000000
/-! DL8: what loops walk, statements, loops, list comprehensions. -/
namespace DL
open PySem PySem.Spec PyProof.Rows L2
/-! ### iterators by their data -/
def JOk (K : PySem.W.Frag) (J : It) (H0 : Hp) (L : List D) (gd : Sto → Prop) : Prop := ∀ i H η, TpM K H0 H → Abs K η H → gd η →
  (∀ d, L[i]? = some d → J.go i H ∧ ∀ v H', J.yld i H v H' → TpM K H H' ∧ (∀ η', Abs K η' H → Abs K η' H') ∧ IsD K H' v d) ∧ (L.length ≤ i → J.stop i H)
def endI (K : PySem.W.Frag) (H : Hp) (R : It → Hp → Prop) : List D → (Sto → Prop) → Sto → Prop := fun L gd η => ∀ J H', TpM K H H' → Abs K η H' → JOk K J H' L gd → R J H'
def upI (K : PySem.W.Frag) (t : DI) : TI := fun σ H R => ∃ δ η, Sl K H σ δ ∧ Abs K η H ∧ t δ η (endI K H R)
theorem pi_imp {X : Cx} {tg e : Expr} {t t' : TI} (h : PI X tg e t) (k : ∀ σ H R, t' σ H R → t σ H R) : PI X tg e t' := ⟨fun pins s σ H R I q => h.run pins s σ H R I (k _ _ _ q)⟩
section
variable {K : PySem.W.Frag} {H H1 : Hp} {η : Sto}
end
section
variable {X : Cx} {tg a : Expr} {ta tb : DE} {pos : Pos}
theorem itl_ok {K : PySem.W.Frag} {H : Hp} {p : Addr} {L : List D} {gd : Sto → Prop} (h : ∀ H' η', TpM K H H' → Abs K η' H' → gd η' → ∃ xs, SqL K H' p xs ∧ IsDs K H' xs L) : JOk K (Itl K p) H L gd := by
  intro i H' η' t a g
  obtain ⟨xs, hq, is⟩ := h H' η' t a g
  refine ⟨fun d hd => ?_, fun hl => ⟨xs, hq, by rw [is.length]; exact hl⟩⟩
  obtain ⟨v, hv, iv⟩ := is.get hd
  refine ⟨⟨xs, v, hq, hv⟩, fun u H2 ⟨e1, e2⟩ => ?_⟩
  subst e1
  have := e2 xs hq
  rw [hv] at this
  cases this
  exact ⟨TpM.refl _ _, fun _ h => h, iv⟩
theorem itt_ok {K : PySem.W.Frag} {H : Hp} {p : Addr} {xs : List V} {L : List D} {gd : Sto → Prop} (hq : SqT K H p xs) (is : IsDs K H xs L) : JOk K (Itt K p) H L gd := by
  intro i H' η' t a g
  refine ⟨fun d hd => ?_, fun hl => ⟨xs, t.1 _ _ hq, by rw [is.length]; exact hl⟩⟩
  obtain ⟨v, hv, iv⟩ := is.get hd
  refine ⟨⟨xs, v, t.1 _ _ hq, hv⟩, fun u H2 ⟨e1, e2⟩ => ?_⟩
  subst e1
  have := e2 xs (t.1 _ _ hq)
  rw [hv] at this
  cases this
  exact ⟨TpM.refl _ _, fun _ h => h, iv.mono t⟩
theorem itr_ok {K : PySem.W.Frag} {H : Hp} {lo : Int} {n : Nat} {gd : Sto → Prop} : JOk K (Itr lo n) H ((List.range n).map fun (i : Nat) => .int (lo + i)) gd := by
  intro i H' η' t a g
  refine ⟨fun d hd => ?_, fun hl => ?_⟩
  · rw [List.getElem?_map] at hd
    cases e : (List.range n)[i]? with
    | none => rw [e] at hd; cases hd
    | some j =>
      have hlt : i < n := by
        have := List.getElem?_eq_some_iff.mp e
        simpa using this.1
      rw [List.getElem?_range hlt] at e
      cases e
      rw [List.getElem?_range hlt] at hd
      cases hd
      refine ⟨hlt, fun u H2 ⟨e1, e2⟩ => ?_⟩
      subst e1 e2
      exact ⟨TpM.refl _ _, fun _ h => h, .int _⟩
  · have : n ≤ i := by simpa using hl
    exact this
/-- a list or a tuple, walked -/
theorem si_of (ha : PE X a (upE X.K ta)) (ma : MoE ta) : PI X tg a (upI X.K fun δ η Q => ta δ η fun x η1 => itD x η1 Q) := by
  refine ⟨fun pins s σ H R I hR => ?_⟩
  obtain ⟨δ, η, sl, ab, h⟩ := hR
  refine thn (ha.run pins s σ H (fun v H1 => ∃ x η1, IsD X.K H1 v x ∧ Abs X.K η1 H1 ∧ itD x η1 (endI X.K H1 R)) I (upE.seq ma sl ab h fun x η1 u H1 h t a i sl => ⟨x, η1, i, a, itD_mono (fun L gd η2 h J H' t' a' j => h J H' (t.trans t') a' j) h⟩)) fun v s1 ⟨u, H1, I1, r1, x, η1, i, a1, q⟩ => ?_
  cases i <;> simp only [itD] at q
  case tup p vs ds hq is =>
    cases r1
    obtain ⟨its, rv, pl, hz⟩ := I1.tuple hq
    refine wpAny_pyIter_tuple (show s1.heap.IsTuple p its.toArray from pl) ?_
    refine ⟨s1.heap.objs.size, [s1.heap.objs.size], _, _, H1, rfl, I1.kept (t' := s1.toks) fun b o e => Heap.get?_push_of_some _ e, turn_tuple p _, ⟨_, Heap.get?_push_size _ rfl, rfl, rfl⟩, fun b hb => ?_, q _ _ (TpM.refl _ _) a1 (itt_ok hq is)⟩
    have e : b = s1.heap.objs.size := by simpa using hb
    subst e
    exact I1.fpOk (Nat.le_refl _) (I1.hok.fresh (Nat.le_refl _))
  case rl p vs ds hq is =>
    cases r1
    obtain ⟨its, rv, pl, hz⟩ := I1.list hq.sq
    refine wpAny_pyIter_list pl.isList ?_
    refine ⟨s1.heap.objs.size, [s1.heap.objs.size], _, _, H1, rfl, I1.kept (t' := s1.toks) fun b o e => Heap.get?_push_of_some _ e, turn_list p _, ⟨_, Heap.get?_push_size _ rfl, rfl, rfl⟩, fun b hb => ?_, q _ _ (TpM.refl _ _) a1 (itl_ok fun H' η' t a g => ⟨vs, (t.2 _ _ hq).sq, is.mono t⟩)⟩
    have e : b = s1.heap.objs.size := by simpa using hb
    subst e
    exact I1.fpOk (Nat.le_refl _) (I1.hok.fresh (Nat.le_refl _))
  case ref p =>
    cases r1
    obtain ⟨xs, hx, q⟩ := q
    obtain ⟨vs, e1, is⟩ := lst_of a1 hx
    obtain ⟨its, rv, pl, hz⟩ := I1.list (SqL.of e1)
    refine wpAny_pyIter_list pl.isList ?_
    refine ⟨s1.heap.objs.size, [s1.heap.objs.size], _, _, H1, rfl, I1.kept (t' := s1.toks) fun b o e => Heap.get?_push_of_some _ e, turn_list p _, ⟨_, Heap.get?_push_size _ rfl, rfl, rfl⟩, fun b hb => ?_, q _ _ (TpM.refl _ _) a1 (itl_ok fun H' η' t a g => ?_)⟩
    · have e : b = s1.heap.objs.size := by simpa using hb
      subst e
      exact I1.fpOk (Nat.le_refl _) (I1.hok.fresh (Nat.le_refl _))
    · obtain ⟨ws, e2, is2⟩ := lst_of a g
      exact ⟨ws, SqL.of e2, is2⟩
/-- range(..), walked -/
theorem si_rng1 {y : Str} {np : Pos} (hy : y = Str.ofString "range") (gy : Gl X y) (my : X.mg y = none) (ha : PE X a (upE X.K ta)) (ma : MoE ta) (hs : nst a = true) :
    PI X tg (.Call (.Name y np) [a] [] pos) (upI X.K fun δ η Q => ta δ η fun v η1 => rgD [v] η1 fun lo hi η2 => Q (rngD lo hi) (fun _ => True) η2) := by
  have hy' : y = ("range" : Str) := hy
  subst hy'
  refine pi_imp (pi_range1 gy my (pa_cons ha pa_nil (star_no hs)) (star_no hs)) fun σ H R ⟨δ, η, sl, ab, h⟩ => ?_
  exact upE.seq ma sl ab h fun v η1 u H1 h t a i sl => by
    cases i <;> simp only [rgD] at h
    refine ⟨_, rfl, h.1.1, h.1.2, h.2 _ _ t a ?_⟩
    have q := itr_ok (K := X.K) (H := H1) (lo := 0) (n := (‹Int› : Int).toNat) (gd := fun _ => True)
    unfold rngD
    simpa using q
theorem si_rng2 {b : Expr} {y : Str} {np : Pos} (hy : y = Str.ofString "range") (gy : Gl X y) (my : X.mg y = none) (ha : PE X a (upE X.K ta)) (hb : PE X b (upE X.K tb)) (ma : MoE ta) (mb : MoE tb) (hs : nst a = true) (hs2 : nst b = true) :
    PI X tg (.Call (.Name y np) [a, b] [] pos) (upI X.K fun δ η Q => ta δ η fun v η1 => tb δ η1 fun w η2 => rgD [v, w] η2 fun lo hi η3 => Q (rngD lo hi) (fun _ => True) η3) := by
  have hy' : y = ("range" : Str) := hy
  subst hy'
  refine pi_imp (pi_range2 gy my (pa_cons ha (pa_cons hb pa_nil (star_no hs2)) (star_no hs)) (by rw [star_no hs, star_no hs2]; rfl) (by rw [star_no hs2]; rfl)) fun σ H R ⟨δ, η, sl, ab, h⟩ => ?_
  exact upE.seq ma sl ab h fun v η1 u H1 h t a i sl => upE.seq mb sl a h fun w η2 u2 H2 h t' a' j sl' => by
    cases i <;> cases j <;> simp only [rgD] at h
    exact ⟨_, _, rfl, ⟨h.1.1, h.1.2, h.2.1.1, h.2.1.2⟩, h.2.2 _ _ (t.trans t') a' itr_ok⟩
end
/-! ### statements -/
def endS (K : PySem.W.Frag) (H : Hp) (E : Ends) : DEnds := { nx := endG K H E.nx, rt := endE K H E.rt, bk := endG K H E.bk, ct := endG K H E.ct }
def upS (K : PySem.W.Frag) (t : DS) : TS := fun E σ H => ∃ δ η, Sl K H σ δ ∧ Abs K η H ∧ t (endS K H E) δ η
theorem endS.later {K : PySem.W.Frag} {H H1 : Hp} {E : Ends} (t : TpM K H H1) : LeN (endS K H E) (endS K H1 E) :=
  ⟨fun δ η h => endG.later t h, fun d η h => endE.later t h, fun δ η h => endG.later t h, fun δ η h => endG.later t h⟩
section
variable {X : Cx} {a c : Expr} {ta : DE} {pos : Pos}
def isComp : Expr → Bool
  | .ListComp .. => true
  | .SetComp .. => true
  | .DictComp .. => true
  | _ => false
theorem sw_no {e : Expr} {t : Option Expr} {l : Nat} {env : Env} (h : isComp e = false) : swapsWith e t l env = pure false := by
  cases e <;> first | rfl | cases h
theorem sw_noS {e t : Expr} {l : Nat} {env : Env} (h : isComp e = false) : swapsWithSole [t] e l env = pure false := sw_no h
theorem ss_ex (ha : PE X a (upE X.K ta)) (ma : MoE ta) (h : isComp a = false) : PS X (.Expr a pos) (upS X.K fun E δ η => ta δ η fun _ η1 => E.nx δ η1) :=
  ps_imp (ps_expr ha (sw_no h)) fun E σ H ⟨δ, η, sl, ab, h⟩ => upE.seq ma sl ab h fun x η1 u H1 h t a i sl => h _ _ t a sl
theorem ss_ret (ha : PE X a (upE X.K ta)) : PS X (.Return (some a) pos) (upS X.K fun E δ η => ta δ η E.rt) :=
  ps_imp (ps_ret ha) fun E σ H h => h
theorem ss_retN : PS X (.Return none pos) (upS X.K fun E _ η => E.rt .non η) :=
  ps_imp ps_retN fun E σ H ⟨δ, η, sl, ab, h⟩ => h.here ab .non
theorem ss_pass : PS X (.Pass pos) (upS X.K fun E δ η => E.nx δ η) := ps_imp ps_pass fun E σ H ⟨δ, η, sl, ab, h⟩ => h.here ab sl
theorem ss_brk : PS X (.Break pos) (upS X.K fun E δ η => E.bk δ η) := ps_imp ps_break fun E σ H ⟨δ, η, sl, ab, h⟩ => h.here ab sl
theorem ss_cont : PS X (.Continue pos) (upS X.K fun E δ η => E.ct δ η) := ps_imp ps_continue fun E σ H ⟨δ, η, sl, ab, h⟩ => h.here ab sl
theorem ss_never {st : Stmt} : PS X st (upS X.K fun _ _ _ => False) := ps_imp ps_never fun E σ H ⟨δ, η, sl, ab, h⟩ => h
theorem ss_doc {x j pos'} : PS X (.Expr (.Constant (.str x) j pos) pos') (upS X.K fun E δ η => E.nx δ η) := ps_imp ps_doc fun E σ H ⟨δ, η, sl, ab, h⟩ => h.here ab sl
theorem sss_nil : PSs X [] (upS X.K fun E δ η => E.nx δ η) := pss_imp pss_nil fun E σ H ⟨δ, η, sl, ab, h⟩ => h.here ab sl
theorem sss_cons {st : Stmt} {rest : List Stmt} {t u : DS} (h1 : PS X st (upS X.K t)) (h2 : PSs X rest (upS X.K u)) (m1 : MoS t) (m2 : MoS u) : PSs X (st :: rest) (upS X.K fun E δ η => t { E with nx := fun δ1 η1 => u E δ1 η1 } δ η) :=
  pss_imp (pss_cons h1 h2) fun E σ H ⟨δ, η, sl, ab, h⟩ => ⟨δ, η, sl, ab, m1 δ η { endS X.K H E with nx := fun δ1 η1 => u (endS X.K H E) δ1 η1 } _ ⟨fun δ1 η1 q σ1 H1 t a sl1 => ⟨δ1, η1, sl1, a, m2 _ _ _ _ (endS.later t) q⟩, fun _ _ q => q, fun _ _ q => q, fun _ _ q => q⟩ h⟩
theorem ss_if {tt : DT} {x y : List Stmt} {t u : DS} (hc : PT X c (upT X.K tt)) (h1 : PSs X x (upS X.K t)) (h2 : PSs X y (upS X.K u)) (mt : MoT tt) (m1 : MoS t) (m2 : MoS u) :
    PS X (.If c x y pos) (upS X.K fun E δ η => tt δ η fun k η1 => if k = true then t E δ η1 else u E δ η1) :=
  ps_imp (ps_if hc h1 h2) fun E σ H ⟨δ, η, sl, ab, h⟩ => upT.seq mt sl ab h fun k η1 H1 q t a sl => by
    cases k with
    | true => simp only [if_true] at q ⊢; exact ⟨δ, η1, sl, a, m1 _ _ _ _ (endS.later t) q⟩
    | false => simp only [Bool.false_eq_true, if_false] at q ⊢; exact ⟨δ, η1, sl, a, m2 _ _ _ _ (endS.later t) q⟩
/-- name = value -/
theorem ss_set {i : Nat} {x : Str} {p : Pos} (hN : X.N.Nodup) (hi : X.N[i]? = some x) (hx : Loc X.env.scope x) (hf : X.fn x = true ∨ X.env.scope.names.lookup x = some .local) (ha : PE X a (upE X.K ta)) (ma : MoE ta) (h : isComp a = false) :
    PS X (.Assign [.Name x p] a pos) (upS X.K fun E δ η => ta δ η fun v η1 => E.nx (δ.set i (some v)) η1) :=
  ps_imp (ps_set hN hi hx ha (sw_no h) hf) fun E σ H ⟨δ, η, sl, ab, h⟩ => upE.seq ma sl ab h fun v η1 u H1 q t a i sl => q _ _ t a (sl.set _ i)
/-- another target: no swapped stores -/
def isTL : Expr → Bool
  | .Tuple .. => true
  | .List .. => true
  | _ => false
def isT : Expr → Bool
  | .Tuple .. => true
  | _ => false
def isN (sc : Scope) : Expr → Bool
  | .Name x _ => sc.names.lookup x == some .local
  | _ => false
def swNone (sc : Scope) : Expr → Expr → Bool
  | .Tuple ts _ _, .Tuple vs _ _ => !ts.all (isN sc) || vs.all (foldedForSure 8)
  | .List .., _ => false
  | _, _ => true
theorem names_lt {env : Env} {l : Nat} : ∀ {ts : List Expr}, ts.all (isN env.scope) = false → (ts.filterMap fun | .Name id pos => if env.kindOf id == some .local && pos.line == l then some id else none | _ => none).length < ts.length
  | [], h => by simp at h
  | t :: ts, h => by
    rw [List.all_cons] at h
    by_cases e : isN env.scope t = true
    · rw [e, Bool.true_and] at h
      have q := names_lt (env := env) (l := l) h
      rw [List.filterMap_cons]
      split <;> simp only [List.length_cons] <;> omega
    · have q : (ts.filterMap fun | .Name id pos => if env.kindOf id == some .local && pos.line == l then some id else none | _ => none).length ≤ ts.length := List.length_filterMap_le _ _
      have e2 : (match t with | .Name id pos => if env.kindOf id == some .local && pos.line == l then some id else none | _ => (none : Option Str)) = none := by
        cases t <;> first | rfl | skip
        rename_i x p
        have e3 : (env.kindOf x == some .local) = false := by
          cases q : (env.kindOf x == some .local) with
          | false => rfl
          | true => exact absurd q e
        show (if (env.kindOf x == some .local && p.line == l) = true then some x else none) = none
        rw [e3]; rfl
      rw [List.filterMap_cons, e2]
      simp only [List.length_cons]
      omega
theorem swst_no {t e : Expr} {env : Env} (h : swNone env.scope t e = true) : swappedStores [t] e env = pure none := by
  cases t
  case Tuple ts k p =>
    cases e
    case Tuple vs k2 p2 =>
      have h' : ts.all (isN env.scope) = false ∨ vs.all (foldedForSure 8) = true := by
        simp only [swNone, Bool.or_eq_true, Bool.not_eq_true'] at h
        exact h
      unfold swappedStores
      simp only
      split
      · rfl
      · split
        · rfl
        · split
          · rfl
          · next hn =>
            split
            · rfl
            · next hf =>
              rcases h' with h' | h'
              · have q := names_lt (env := env) (l := (ts.head?.map (·.pos.line)).getD 0) h'
                exfalso
                apply hn
                simp only [Bool.or_eq_true, bne_iff_ne, ne_eq]
                exact .inl (Nat.ne_of_lt q)
              · exact absurd h' hf
    all_goals rfl
  case List => cases h
  all_goals rfl
/-- target = value, no plain name -/
theorem ss_asg {tg : Expr} {vs : List Nat} {g : DG} (ha : PE X a (upE X.K ta)) (hg : PG X tg (upW X.K vs g)) (ma : MoE ta) (mg : MoG g) (h : isComp a = false) (hw : swNone X.env.scope tg a = true) (hs : nst tg = true) :
    PS X (.Assign [tg] a pos) (upS X.K fun E δ η => ta δ η fun v η1 => g v δ η1 E.nx) :=
  ps_imp (ps_asg ha hg (sw_noS h) (swst_no hw) (by rw [each_no hs]; rfl)) fun E σ H ⟨δ, η, sl, ab, h⟩ => upE.seq ma sl ab h fun v η1 u H1 q t a i sl =>
    ⟨v, δ, η1, i, sl, a, mg _ _ _ _ _ (fun δ2 η2 q σ2 H2 t2 a2 sl2 _ => q _ _ (t.trans t2) a2 sl2) q⟩
/-- a, b = x, y -/
def swPair (sc : Scope) (x y : Str) (px py : Pos) (a b : Expr) : Bool := (sc.names.lookup x == some .local) && (sc.names.lookup y == some .local) && (px.line == py.line) && (x != y) && nst a && nst b && !([a, b].all (foldedForSure 8)) && !([a, b].all (constantsAlone 8))
theorem sw_pair {sc : Scope} {x y : Str} {px py pt pt2 : Pos} {a b : Expr} {k k2 : Nat} {env : Env} (h : swPair sc x y px py a b = true) (he : env.scope = sc) (hk : sc.kind = .function) : swappedStores [.Tuple [.Name x px, .Name y py] k pt] (.Tuple [a, b] k2 pt2) env = pure (some [x, y]) := by
  subst he
  simp only [swPair, Bool.and_eq_true, beq_iff_eq, bne_iff_ne, ne_eq, Bool.not_eq_true'] at h
  obtain ⟨⟨⟨⟨⟨⟨⟨h1, h2⟩, h3⟩, h4⟩, h5⟩, h6⟩, h7⟩, h8⟩ := h
  have k1 : env.kindOf x = some .local := h1
  have k2' : env.kindOf y = some .local := h2
  have hb : env.blockKind = .function := by unfold Env.blockKind; rw [hk]; rfl
  have nx : (x == y) = false := by simpa using h4
  have ny : (y == x) = false := by simpa using fun e : y = x => h4 e.symm
  have st : ([a, b].any fun | .Starred .. => true | _ => false) = false := by
    simp only [List.any_cons, List.any_nil, Bool.or_false, Bool.or_eq_false_iff]
    refine ⟨?_, ?_⟩
    · cases a <;> first | rfl | exact Bool.noConfusion h5
    · cases b <;> first | rfl | exact Bool.noConfusion h6
  unfold swappedStores
  simp only [hb, k1, k2', h3, List.filterMap_cons, List.filterMap_nil, List.head?_cons, Option.map_some, Option.getD_some, Expr.pos, List.length_cons, List.length_nil]
  rw [if_neg (by decide)]
  refine Eq.trans (if_neg (fun e => Bool.noConfusion (st.symm.trans e))) ?_
  have e1 : (some NameKind.local == some NameKind.local && py.line == py.line) = true := by simp
  simp only [e1, if_true]
  rw [if_neg (by simp [List.eraseDups_cons, nx, ny])]
  rw [if_neg (by rw [h7]; decide), if_neg (by rw [h8]; decide)]
theorem ss_par {i j : Nat} {x y : Str} {a b : Expr} {ta tb : DE} {px py pt pt2 : Pos} {k k2 : Nat} (hc : X.calm = true) (hN : X.N.Nodup) (hi : X.N[i]? = some x) (hj : X.N[j]? = some y) (hij : i ≠ j) (hk : X.env.scope.kind = .function)
    (hw : swPair X.env.scope x y px py a b = true) (ha : PE X a (upE X.K ta)) (hb : PE X b (upE X.K tb)) (ma : MoE ta) (mb : MoE tb) :
    PS X (.Assign [.Tuple [.Name x px, .Name y py] k pt] (.Tuple [a, b] k2 pt2) pos) (upS X.K fun E δ η => ta δ η fun v η1 => tb δ η1 fun w η2 => E.nx ((δ.set i (some v)).set j (some w)) η2) := by
  have hw' := hw
  simp only [swPair, Bool.and_eq_true, beq_iff_eq, bne_iff_ne, ne_eq, Bool.not_eq_true'] at hw'
  obtain ⟨⟨⟨⟨⟨⟨⟨h1, h2⟩, h3⟩, h4⟩, h5⟩, h6⟩, h7⟩, h8⟩ := hw'
  refine ps_imp (ps_par hc hN hi hj hij h1 h2 (pa_cons ha (pa_cons hb pa_nil (star_no h6)) (star_no h5)) (sw_pair hw rfl hk) rfl) fun E σ H ⟨δ, η, sl, ab, h⟩ => ?_
  exact upE.seq ma sl ab h fun v η1 u1 H1 h t a i1 sl1 => upE.seq mb sl1 a h fun w η2 u2 H2 h t' a' i2 sl2 => ⟨u1, u2, rfl, h _ _ (t.trans t') a' ((sl2.set _ (i1.mono t')).set _ i2)⟩
end
end DL

set_option Elab.async false
set_option linter.all false
set_option maxRecDepth 100000
set_option maxHeartbeats 4000000
/-! DL9: loops, list comprehensions. -/
namespace DL
open PySem PySem.Spec PyProof.Rows L2
section
variable {X : Cx} {tg a c it : Expr} {body : List Stmt} {pos : Pos}
theorem ss_while {tc : DT} {tb : DS} (hp : PassesOwn (model X.prog X.w) X.A X.env X.xe) (hc : PT X c (upT X.K tc)) (hb : PSs X body (upS X.K tb)) (mc : MoT tc) (mb : MoS tb) :
    PS X (.While c body [] pos) (upS X.K fun E δ η => ∃ n, whlLoop tc tb n E δ η) := by
  refine ps_imp (ps_while hp hc hb) fun E σ H ⟨δ, η, sl, ab, n, h⟩ => ?_
  refine ⟨fun m σ' H' => TpM X.K H H' ∧ ∃ δ η, Sl X.K H' σ' δ ∧ Abs X.K η H' ∧ whlLoop tc tb m (endS X.K H E) δ η, ⟨n, TpM.refl _ _, δ, η, sl, ab, h⟩, fun m σ1 H1 ⟨t1, δ1, η1, sl1, ab1, h1⟩ => ?_⟩
  cases m with
  | zero => exact h1.elim
  | succ m =>
    refine upT.seq mc sl1 ab1 h1 fun b η2 H2 q t2 a2 sl2 => ?_
    cases b with
    | false =>
      simp only [Bool.false_eq_true, if_false] at q ⊢
      exact q σ1 H2 (t1.trans t2) a2 sl2
    | true =>
      simp only [if_true] at q ⊢
      refine ⟨fun σ' H' => TpM X.K H H' ∧ ∃ δ η, Sl X.K H' σ' δ ∧ Abs X.K η H' ∧ whlLoop tc tb m (endS X.K H E) δ η, fun σ' H' w => ⟨m, Nat.lt_succ_self _, w⟩, δ1, η2, sl2, a2, mb _ _ _ _ ⟨?_, ?_, ?_, ?_⟩ q⟩
      · exact fun δ η h σ' H' t a sl => ⟨(t1.trans t2).trans t, δ, η, sl, a, h⟩
      · exact fun d η h => endE.later (t1.trans t2) h
      · exact fun δ η h => endG.later (t1.trans t2) h
      · exact fun δ η h σ' H' t a sl => ⟨(t1.trans t2).trans t, δ, η, sl, a, h⟩
def isSetE : Expr → Bool
  | .Set .. => true
  | _ => false
theorem fold_no {e : Expr} {env : Env} (h : isSetE e = false) (x : Value) : foldedSetIterable e env x = pure x := by
  cases e <;> first | rfl | exact Bool.noConfusion h
theorem drop_at {α : Type} {L : List α} {i : Nat} (h : i < L.length) : L.drop i = L[i] :: L.drop (i + 1) := List.drop_eq_getElem_cons h
theorem ss_for {vs : List Nat} {g : DG} {tb : DS} {ti : DI} (hp : PassesOwn (model X.prog X.w) X.A X.env X.xe) (hc : X.calm = true) (hi : PI X tg it (upI X.K ti)) (hg : PG X tg (upW X.K vs g)) (hb : PSs X body (upS X.K tb)) (mi : MoI ti) (mg : MoG g) (mb : MoS tb) (hs : isSetE it = false) :
    PS X (.For tg it body [] pos) (upS X.K fun E δ η => ti δ η fun L gd η1 => forLoop g tb gd L E δ η1) := by
  refine ps_imp (ps_for hp hc hi hg hb (fold_no hs)) fun E σ H ⟨δ, η, sl, ab, h⟩ => ?_
  refine ⟨δ, η, sl, ab, mi _ _ _ _ (fun L gd η1 h J H1 t1 a1 jok => ?_) h⟩
  refine ⟨fun i m σ' H' => m = L.length - i ∧ i ≤ L.length ∧ TpM X.K H1 H' ∧ ∃ δ η, Sl X.K H' σ' δ ∧ Abs X.K η H' ∧ forLoop g tb gd (L.drop i) (endS X.K H E) δ η, ⟨L.length, by simp, Nat.zero_le _, TpM.refl _ _, δ, η1, sl.mono t1, a1, h⟩, ?_⟩
  rintro i m σ' H' ⟨em, hle, t', δ', η', sl', ab', h'⟩
  by_cases hlt : i < L.length
  · rw [drop_at hlt] at h'
    obtain ⟨g0, h'⟩ := h'
    obtain ⟨go, yl⟩ := (jok i H' η' t' ab' g0).1 L[i] (by simp [hlt])
    refine .inr ⟨go, fun σ2 H2 => TpM X.K H1 H2 ∧ ∃ δ η, Sl X.K H2 σ2 δ ∧ Abs X.K η H2 ∧ forLoop g tb gd (L.drop (i + 1)) (endS X.K H E) δ η, fun σ2 H2 w => ⟨L.length - (i + 1), by omega, rfl, hlt, w⟩, fun v H2 y => ?_⟩
    obtain ⟨t2, a2, iv⟩ := yl v H2 y
    refine ⟨L[i], δ', η', iv, sl'.mono t2, a2 _ ab', mg _ _ _ _ _ (fun δ2 η2 q σ3 H3 t3 a3 sl3 _ => ?_) h'⟩
    have t4 : TpM X.K H1 H3 := (t'.trans t2).trans t3
    exact ⟨δ2, η2, sl3, a3, mb _ _ _ _ ⟨fun δ η h σ4 H4 t a sl => ⟨t4.trans t, δ, η, sl, a, h⟩, fun d η h => endE.later (t1.trans t4) h, fun δ η h => endG.later (t1.trans t4) h, fun δ η h σ4 H4 t a sl => ⟨t4.trans t, δ, η, sl, a, h⟩⟩ q⟩
  · have e : i = L.length := by omega
    rw [e, List.drop_length] at h'
    exact .inl ⟨(jok i H' η' t' ab' h'.1).2 (by omega), h'.2 σ' H' (t1.trans t') ab' sl'⟩
/-! ### list comprehensions -/
theorem wipe_wipe {σ : L2.St} {vs : List Nat} : wipe (wipe σ vs) vs = wipe σ vs := by
  apply List.ext_getElem?
  intro j
  rw [wipe_get, wipe_length]
  by_cases hm : j ∈ vs ∧ j < σ.length
  · rw [if_pos hm, wipe_get, if_pos hm]
  · rw [if_neg hm]
theorem sts_nil : PTs X [] (upT X.K fun _ η Q => Q true η) := ⟨fun pins s σ H Q I q => pts_nil.run pins s σ H Q I (let ⟨δ, η, sl, ab, h⟩ := q; h.here ab)⟩
theorem se_lc {own : List (Str × Nat)} {elt : Expr} {ifs : List Expr} {scope : Scope} {g : DG} {tt : DT} {te : DE} {ti : DI} (hc : X.calm = true) (hN : X.N.Nodup) (hi : PI X tg it (upI X.K ti)) (ok : BlkOk X.N X.env.scope scope own)
    (hg : ∀ (s : Shared) (H : Hp) (C : Addr) (cl : List (Str × Addr)) (fp : List Addr), PG (X.blk s H scope (compEnvC scope cl C X.env) fp) tg (upW X.K (own.map (·.2)) g)) (ht : ∀ (s : Shared) (H : Hp) (C : Addr) (cl : List (Str × Addr)) (fp : List Addr), PTs (X.blk s H scope (compEnvC scope cl C X.env) fp) ifs (upT X.K tt))
    (he : ∀ (s : Shared) (H : Hp) (C : Addr) (cl : List (Str × Addr)) (fp : List Addr), PE (X.blk s H scope (compEnvC scope cl C X.env) fp) elt (upE X.K te)) (mi : MoI ti) (mg : MoG g) (mt : MoT tt) (me : MoE te) (hs : isSetE it = false) :
    PE X (.ListComp elt [⟨tg, it, ifs, 0⟩] scope pos) (upE X.K fun δ η Q => ti δ η fun L gd η1 => ∀ p, η1 p = none → lcLoop g tt te (dwipe δ (own.map (·.2))) gd p L (put η1 p (.lst [])) fun η2 => Q (.ref p) η2) := by
  refine pe_imp (pe_lc hc hN hi ok hg ht he (fold_no hs)) fun σ H Q ⟨δ, η, sl, ab, h⟩ => ?_
  refine ⟨δ, η, sl, ab, mi _ _ _ _ (fun L gd η1 h J H1 t1 a1 jok D hD => ?_) h⟩
  have h := h D (a1.free hD)
  generalize hvs : own.map (·.2) = vs at h ⊢
  have tD : TpM X.K H1 (upd H1 D (.lst [])) := TpM.new hD
  refine ⟨fun i m H' => m = L.length - i ∧ i ≤ L.length ∧ TpM X.K H1 H' ∧ ∃ η, Abs X.K η H' ∧ lcLoop g tt te (dwipe δ vs) gd D (L.drop i) η fun η2 => endE X.K H Q (.ref D) η2,
    ⟨L.length, by simp, Nat.zero_le _, tD, put η1 D (.lst []), a1.put tD ⟨[], upd_same, .nil⟩, h⟩, ?_⟩
  rintro i m H' ⟨em, hle, t', η', ab', h'⟩
  by_cases hlt : i < L.length
  · rw [drop_at hlt] at h'
    obtain ⟨g0, h'⟩ := h'
    obtain ⟨go, yl⟩ := (jok i H' η' t' ab' g0).1 L[i] (by simp [hlt])
    refine .inr ⟨go, fun H2 => TpM X.K H1 H2 ∧ ∃ η, Abs X.K η H2 ∧ lcLoop g tt te (dwipe δ vs) gd D (L.drop (i + 1)) η fun η2 => endE X.K H Q (.ref D) η2, fun H2 w => ⟨L.length - (i + 1), by omega, rfl, hlt, w⟩, fun v H2 y => ?_⟩
    obtain ⟨t2, a2, iv⟩ := yl v H2 y
    have slw : Sl X.K H2 (wipe σ vs) (dwipe δ vs) := (((sl.mono t1).mono t').mono t2).wipe vs
    refine ⟨L[i], dwipe δ vs, η', iv, slw, a2 _ ab', mg _ _ _ _ _ (fun δ2 η2 q σ3 H3 t3 a3 sl3 w3 => ⟨w3.trans wipe_wipe, ?_⟩) h'⟩
    refine upT.seq mt sl3 a3 q fun b η4 H4 q t4 a4 sl4 => ?_
    have t5 : TpM X.K H1 H4 := ((t'.trans t2).trans t3).trans t4
    cases b with
    | false =>
      simp only [Bool.false_eq_true, if_false] at q ⊢
      exact ⟨t5, η4, a4, q⟩
    | true =>
      simp only [if_true] at q ⊢
      refine upE.seq me sl4 a4 q fun d η6 y H6 ⟨acc, e1, e2, e3⟩ t6 a6 i6 sl6 => ?_
      obtain ⟨accV, e4, is⟩ := lst_of a6 e1
      have t7 : TpM X.K H6 (upd H6 D (.lst (accV ++ [y]))) := TpM.lst e4
      exact ⟨accV, e4, by rw [is.length]; exact e2, (t5.trans t6).trans t7, _, a6.put (m := .lst (acc ++ [d])) t7 ⟨_, upd_same, (is.append (.cons i6 .nil)).mono t7⟩, e3⟩
  · have e : i = L.length := by omega
    rw [e, List.drop_length] at h'
    exact .inl ⟨(jok i H' η' t' ab' h'.1).2 (by omega), h'.2 _ _ (t1.trans t') ab' (.ref D)⟩
end
end DL

set_option Elab.async false
set_option linter.all false
set_option maxRecDepth 100000
set_option maxHeartbeats 4000000
/-! DL10: whether an own syntax tree tells a part of the program; the context. -/
namespace DL
open PySem PySem.Spec PyProof.Rows L2
structure Tab where
  defs : List (Str × List Str)
  free : List Str
  con : List (Str × D)
structure Ctx where
  T : Tab
  N : List Str
  sc : Scope
  top : Bool
def Ctx.sub (Γ : Ctx) (scope : Scope) : Ctx := { Γ with sc := relS scope Γ.sc, top := false }
def visB (sc : Scope) (x : Str) : Bool := match sc.names.lookup x with
  | some .local => true
  | some .cell => true
  | some .free => true
  | _ => false
def gloB (sc : Scope) (x : Str) : Bool := match sc.names.lookup x with
  | some .globalImplicit => true
  | _ => false
def tgtB (sc : Scope) (top : Bool) (x : Str) : Bool := match sc.names.lookup x with
  | some .local => true
  | some .cell => top
  | _ => false
def nDbg (x : Str) : Bool := !(x == Str.ofString "__debug__")
def blB (Γ : Ctx) (x y : Str) : Bool := x == y && gloB Γ.sc x && Γ.T.free.contains x
def plIx : Expr → Bool
  | .Slice _ _ _ _ => false
  | _ => true
mutual
def tgSl : Tg → List Nat
  | .name i => [i]
  | .tup ts => tgSls ts
  | .sub _ _ => []
def tgSls : Tgs → List Nat
  | .nil => []
  | .cons t ts => tgSl t ++ tgSls ts
end
mutual
def mE (Γ : Ctx) : E → Expr → Bool
  | .var i => fun ex => match ex with
    | .Name x _ => decide (Γ.N[i]? = some x) && visB Γ.sc x && nDbg x && !(x == Str.ofString "__classdict__")
    | _ => false
  | .int i => fun ex => match ex with
    | .Constant (.int j) _ _ => decide (i = j)
    | _ => false
  | .str i => fun ex => match ex with
    | .Constant (.str j) _ _ => decide (i = j)
    | _ => false
  | .bl i => fun ex => match ex with
    | .Constant (.bool j) _ _ => decide (i = j)
    | _ => false
  | .non => fun ex => match ex with
    | .Constant .none _ _ => true
    | _ => false
  | .glo x => fun ex => match ex with
    | .Name y _ => decide (x = y) && gloB Γ.sc y && (Γ.T.con.lookup y).isSome && nDbg y
    | _ => false
  | .bin o a b => fun ex => match ex with
    | .BinOp a' o' b' _ => decide (o.o = o') && mE Γ a a' && mE Γ b b'
    | _ => false
  | .neg a => fun ex => match ex with
    | .UnaryOp .USub a' _ => mE Γ a a'
    | _ => false
  | .cmp o a b => fun ex => match ex with
    | .Compare a' [o'] [b'] _ => decide (o.o = o') && !behindInMarks o' b' && mE Γ a a' && mE Γ b b'
    | _ => false
  | .chn o p a b c => fun ex => match ex with
    | .Compare a' [o', p'] [b', c'] _ => decide (o.o = o') && decide (p.o = p') && !lastMarks [o', p'] [b', c'] && mE Γ a a' && mE Γ b b' && mE Γ c c'
    | _ => false
  | .and a b => fun ex => match ex with
    | .BoolOp .And (a' :: b' :: rest) pos => mE Γ a a' && (match rest with | [] => mE Γ b b' | c' :: r' => mE Γ b (.BoolOp .And (b' :: c' :: r') pos))
    | _ => false
  | .or a b => fun ex => match ex with
    | .BoolOp .Or (a' :: b' :: rest) pos => mE Γ a a' && (match rest with | [] => mE Γ b b' | c' :: r' => mE Γ b (.BoolOp .Or (b' :: c' :: r') pos))
    | _ => false
  | .not a => fun ex => match ex with
    | .UnaryOp .Not a' _ => mE Γ a a'
    | _ => false
  | .ife c a b => fun ex => match ex with
    | .IfExp c' a' b' _ => mE Γ c c' && mE Γ a a' && mE Γ b b'
    | _ => false
  | .idx a i => fun ex => match ex with
    | .Subscript a' i' _ => plIx i' && mE Γ a a' && mE Γ i i'
    | _ => false
  | .slc a lo hi => fun ex => match ex with
    | .Subscript a' (.Slice lo' hi' none _) _ => mE Γ a a' && mO Γ lo lo' && mO Γ hi hi'
    | _ => false
  | .rev a => fun ex => match ex with
    | .Subscript a' (.Slice none none (some (.UnaryOp .USub (.Constant (.int 1) _ _) _)) _) _ => mE Γ a a'
    | _ => false
  | .tup es => fun ex => match ex with
    | .Tuple es' _ _ => mA Γ es es'
    | _ => false
  | .lst es => fun ex => match ex with
    | .List es' _ => mA Γ es es'
    | _ => false
  | .dic => fun ex => match ex with
    | .Dict [] [] _ => true
    | _ => false
  | .call f es => fun ex => match ex with
    | .Call (.Name x _) es' [] _ => decide (f = x) && gloB Γ.sc x && nDbg x && (Γ.T.defs.lookup x).isSome && es'.all nst && mA Γ es es'
    | _ => false
  | .callk f ks es => fun ex => match ex with
    | .Call (.Name x _) [] kws _ => decide (f = x) && gloB Γ.sc x && nDbg x && (match Γ.T.defs.lookup x with | some ps => kwOf kws ps | none => false) && mK Γ es kws
    | _ => false
  | .isI a T => fun ex => match ex with
    | .Call (.Name x _) [a', .Name y _] [] _ => clsOk T && blB Γ x (Str.ofString "isinstance") && blB Γ y (Str.ofString T) && nst a' && mE Γ a a'
    | _ => false
  | .blt f es => fun ex => match ex with
    | .Call (.Name x _) (e :: es') [] _ => blB Γ x (Str.ofString f.id) && (e :: es').all nst && mA Γ es (e :: es')
    | _ => false
  | .rng tp (.cons e .nil) => fun ex => match ex with
    | .Call (.Name x _) [.Call (.Name y _) [a'] [] _] [] _ => blB Γ x (Str.ofString (if tp = true then "tuple" else "list")) && blB Γ y (Str.ofString "range") && nst a' && mE Γ e a'
    | _ => false
  | .rng tp (.cons e (.cons e2 .nil)) => fun ex => match ex with
    | .Call (.Name x _) [.Call (.Name y _) [a', b'] [] _] [] _ => blB Γ x (Str.ofString (if tp = true then "tuple" else "list")) && blB Γ y (Str.ofString "range") && nst a' && nst b' && mE Γ e a' && mE Γ e2 b'
    | _ => false
  | .rng _ _ => fun _ => false
  | .mth m a .nil => fun ex => match ex with
    | .Call (.Attribute a' x apos) [] [] pos => decide (m = .pop) && decide (x = Str.ofString "pop") && ncall a' && (apos.endLine == pos.line) && mE Γ a a'
    | _ => false
  | .mth m a (.cons b .nil) => fun ex => match ex with
    | .Call (.Attribute a' x apos) [b'] [] pos => (decide (m = .append) || decide (m = .extend) || decide (m = .pop)) && decide (x = Str.ofString m.id) && ncall a' && nst b' && (apos.endLine == pos.line) && mE Γ a a' && mE Γ b b'
    | _ => false
  | .mth _ _ _ => fun _ => false
  | .lc elt t it ifs own => fun ex => match ex with
    | .ListComp elt' [⟨tg', it', ifs', k⟩] scope _ => decide (k = 0) && blkC Γ.N Γ.sc scope (own.map fun i => (Γ.N.getD i (Str.ofString ""), i)) && (tgSl t).all own.contains && !isSetE it' && mI Γ it tg' it' && mG (Γ.sub scope) t tg' && mTs (Γ.sub scope) ifs ifs' && mE (Γ.sub scope) elt elt'
    | _ => false
def mA (Γ : Ctx) : Es → List Expr → Bool
  | .nil => fun es => match es with
    | [] => true
    | _ => false
  | .cons e r => fun es => match es with
    | x :: xs => nst x && mE Γ e x && mA Γ r xs
    | _ => false
  | .star e r => fun es => match es with
    | .Starred x _ :: xs => mE Γ e x && mA Γ r xs
    | _ => false
def mK (Γ : Ctx) : Es → List Keyword → Bool
  | .nil => fun es => match es with
    | [] => true
    | _ => false
  | .cons e r => fun es => match es with
    | ⟨_, x, _⟩ :: xs => mE Γ e x && mK Γ r xs
    | _ => false
  | .star _ _ => fun _ => false
def mTs (Γ : Ctx) : Es → List Expr → Bool
  | .nil => fun es => match es with
    | [] => true
    | _ => false
  | .cons e .nil => fun es => match es with
    | [x] => mE Γ e x
    | _ => false
  | _ => fun _ => false
def mO (Γ : Ctx) : Oe → Option Expr → Bool
  | .no => fun e => match e with
    | none => true
    | _ => false
  | .yes e => fun x => match x with
    | some x => mE Γ e x
    | _ => false
def mI (Γ : Ctx) : I → Expr → Expr → Bool
  | .of e => fun _ ex => mE Γ e ex
  | .rng (.cons e .nil) => fun _ ex => match ex with
    | .Call (.Name y _) [a'] [] _ => blB Γ y (Str.ofString "range") && nst a' && mE Γ e a'
    | _ => false
  | .rng (.cons e (.cons e2 .nil)) => fun _ ex => match ex with
    | .Call (.Name y _) [a', b'] [] _ => blB Γ y (Str.ofString "range") && nst a' && nst b' && mE Γ e a' && mE Γ e2 b'
    | _ => false
  | .zip (.cons e (.cons e2 .nil)) => fun tg ex => match ex with
    | .Call (.Name y _) [a', b'] [] _ => isT tg && blB Γ y (Str.ofString "zip") && nst a' && nst b' && mE Γ e a' && mE Γ e2 b'
    | _ => false
  | .zip (.cons e (.cons e2 (.cons e3 .nil))) => fun tg ex => match ex with
    | .Call (.Name y _) [a', b', c'] [] _ => isT tg && blB Γ y (Str.ofString "zip") && nst a' && nst b' && nst c' && mE Γ e a' && mE Γ e2 b' && mE Γ e3 c'
    | _ => false
  | .enm (.of e) => fun tg ex => match ex with
    | .Call (.Name y _) [a'] [] _ => isT tg && blB Γ y (Str.ofString "enumerate") && nst a' && mE Γ e a'
    | _ => false
  | .enm (.zip (.cons e (.cons e2 .nil))) => fun tg ex => match ex with
    | .Call (.Name z _) [.Call (.Name y _) [a', b'] [] _] [] _ => isT tg && blB Γ z (Str.ofString "enumerate") && blB Γ y (Str.ofString "zip") && nst a' && nst b' && mE Γ e a' && mE Γ e2 b'
    | _ => false
  | .enm (.zip (.cons e (.cons e2 (.cons e3 .nil)))) => fun tg ex => match ex with
    | .Call (.Name z _) [.Call (.Name y _) [a', b', c'] [] _] [] _ => isT tg && blB Γ z (Str.ofString "enumerate") && blB Γ y (Str.ofString "zip") && nst a' && nst b' && nst c' && mE Γ e a' && mE Γ e2 b' && mE Γ e3 c'
    | _ => false
  | _ => fun _ _ => false
def mG (Γ : Ctx) : Tg → Expr → Bool
  | .name i => fun ex => match ex with
    | .Name x _ => decide (Γ.N[i]? = some x) && tgtB Γ.sc Γ.top x
    | _ => false
  | .tup ts => fun ex => match ex with
    | .Tuple es _ _ => es.all nst && mGs Γ ts es
    | _ => false
  | .sub a i => fun ex => match ex with
    | .Subscript a' i' _ => plIx i' && mE Γ a a' && mE Γ i i'
    | _ => false
def mGs (Γ : Ctx) : Tgs → List Expr → Bool
  | .nil => fun es => match es with
    | [] => true
    | _ => false
  | .cons t ts => fun es => match es with
    | x :: xs => nst x && mG Γ t x && mGs Γ ts xs
    | _ => false
end
mutual
def mS (Γ : Ctx) : S → Stmt → Bool
  | .asg t e => fun st => match st with
    | .Assign [tg] ex _ => nst tg && !isComp ex && swNone Γ.sc tg ex && mG Γ t tg && mE Γ e ex
    | _ => false
  | .par i j a b => fun st => match st with
    | .Assign [.Tuple [.Name x px, .Name y py] _ _] (.Tuple [a', b'] _ _) _ => decide (Γ.N[i]? = some x) && decide (Γ.N[j]? = some y) && decide (i ≠ j) && swPair Γ.sc x y px py a' b' && mE Γ a a' && mE Γ b b'
    | _ => false
  | .ex e => fun st => match st with
    | .Expr ex _ => !isComp ex && mE Γ e ex
    | _ => false
  | .ret e => fun st => match st with
    | .Return (some ex) _ => mE Γ e ex
    | _ => false
  | .retN => fun st => match st with
    | .Return none _ => true
    | _ => false
  | .ife c a b => fun st => match st with
    | .If c' a' b' _ => mE Γ c c' && mSs Γ a a' && mSs Γ b b'
    | _ => false
  | .for_ t i b => fun st => match st with
    | .For tg it body [] _ => Γ.top && !isSetE it && mI Γ i tg it && mG Γ t tg && mSs Γ b body
    | _ => false
  | .whl c b => fun st => match st with
    | .While c' body [] _ => Γ.top && mE Γ c c' && mSs Γ b body
    | _ => false
  | .never => fun _ => true
  | .pass => fun st => match st with
    | .Pass _ => true
    | .Expr (.Constant (.str _) _ _) _ => true
    | _ => false
  | .brk => fun st => match st with
    | .Break _ => true
    | _ => false
  | .cont => fun st => match st with
    | .Continue _ => true
    | _ => false
def mSs (Γ : Ctx) : Ss → List Stmt → Bool
  | .nil => fun l => match l with
    | [] => true
    | _ => false
  | .cons s ss => fun l => match l with
    | x :: xs => mS Γ s x && mSs Γ ss xs
    | _ => false
end
/-! ### the context -/
structure Prim (T : Tab) (C : Calls) (P : Program) (w : World) (K : PySem.W.Frag) (mg : Str → Option Value) (base : Heap) (A : Around) : Prop where
  cal : ∀ x ps, T.defs.lookup x = some ps → ∃ f, ∀ X : Cx, X.prog = P → X.w = w → X.K = K → X.mg = mg → X.base = base → X.A = A → Cal X (C x) x ps f
  free : ∀ x, T.free.contains x = true → mg x = none
  con : ∀ x d, T.con.lookup x = some d → ∃ v u, mg x = some u ∧ RelV v u ∧ ∀ H, IsD K H v d
structure OkX (Γ : Ctx) (C : Calls) (X : Cx) : Prop where
  N : X.N = Γ.N
  nd : X.N.Nodup
  sc : X.env.scope = Γ.sc
  kind : X.env.scope.kind = .function
  calm : X.calm = true
  guards : X.A.guards = some []
  units : X.A.units + 100 < cLine
  pass : Γ.top = true → PassesOwn (model X.prog X.w) X.A X.env X.xe
  fn : Γ.top = true → ∀ x, X.fn x = true
  prim : Prim Γ.T C X.prog X.w X.K X.mg X.base X.A
theorem OkX.blk {Γ : Ctx} {C : Calls} {X : Cx} (ok : OkX Γ C X) {scope : Scope} (hk : scope.kind = .function) (s : Shared) (H : Hp) (a : Addr) (cl : List (Str × Addr)) (fp : List Addr) : OkX (Γ.sub scope) C (X.blk s H scope (compEnvC scope cl a X.env) fp) :=
  ⟨ok.N, ok.nd, by rw [Ctx.sub, ← ok.sc]; rfl, hk, ok.calm, ok.guards, ok.units, fun h => Bool.noConfusion h, fun h => Bool.noConfusion h, ok.prim⟩
theorem OkX.cal {Γ : Ctx} {C : Calls} {X : Cx} (ok : OkX Γ C X) {x : Str} {ps : List Str} (h : Γ.T.defs.lookup x = some ps) : ∃ f, Cal X (C x) x ps f :=
  let ⟨f, k⟩ := ok.prim.cal x ps h; ⟨f, k X rfl rfl rfl rfl rfl rfl⟩
theorem vis_of {sc : Scope} {x : Str} (h : visB sc x = true) : Vis sc x := by
  unfold visB at h
  split at h <;> first | exact .inl (by assumption) | exact .inr (.inl (by assumption)) | exact .inr (.inr (by assumption)) | cases h
theorem gl_of {X : Cx} {x : Str} (h : gloB X.env.scope x = true) : Gl X x := by
  unfold gloB at h
  split at h
  · assumption
  · cases h
theorem dbg_of {x : Str} (h : nDbg x = true) : (x == ("__debug__" : Str)) = false := by
  unfold nDbg at h
  simpa using h
theorem blB_of {Γ : Ctx} {C : Calls} {X : Cx} (ok : OkX Γ C X) {x y : Str} (h : blB Γ x y = true) : x = y ∧ Gl X x ∧ X.mg x = none := by
  unfold blB at h
  rw [Bool.and_eq_true, Bool.and_eq_true, beq_iff_eq] at h
  exact ⟨h.1.1, gl_of (by rw [ok.sc]; exact h.1.2), ok.prim.free x h.2⟩
theorem tgt_of {Γ : Ctx} {C : Calls} {X : Cx} (ok : OkX Γ C X) {x : Str} (h : tgtB Γ.sc Γ.top x = true) : Loc X.env.scope x ∧ (X.fn x = true ∨ X.env.scope.names.lookup x = some .local) := by
  unfold tgtB at h
  rw [← ok.sc] at h
  split at h
  · exact ⟨.inl (by assumption), .inr (by assumption)⟩
  · exact ⟨.inr (by assumption), .inl (ok.fn h x)⟩
  · cases h
theorem plIx_of {b : Expr} (h : plIx b = true) : PlainIx b := by
  intro o i
  cases b <;> first | rfl | exact Bool.noConfusion h
theorem plIx_ne {b : Expr} (h : plIx b = true) : ∀ l u s p, b ≠ .Slice l u s p := by
  intro l u s p e
  subst e
  cases h
end DL

set_option Elab.async false
set_option linter.all false
set_option maxRecDepth 100000
set_option maxHeartbeats 4000000
/-! DLZ1 (printed by gz.py): a zip's turn, whether its own tuple is out or not. -/
namespace DL
open PySem PySem.Spec PyProof.Rows L2
/-- a zip object, whatever its own tuple's marks -/
abbrev ZR (h : Heap) (z TI TO : Addr) (f0 : Value) (b0 : Bool) : Prop :=
  h.get? z = some { cls := .type "zip", dict := none, data := .fields #[f0, .bool b0, .bool false, .ref TI, .ref TO], slots := #[] }
def F0 (v : Value) : Prop := v = .none ∨ ∃ T : Nat, v = rawInt T
theorem alive_any {prog : Program} {w : World} {A : Around} {E : Value → Shared → Prop} {s : Shared} {a : Addr} {Q : Option Obj → Shared → Prop} (h : Q (s.heap.get? a) s) : wpAny (model prog w) A (loadIfAlive a) Q E s := fun _ _ _ => h
theorem zfree {prog : Program} {w : World} {A : Around} {E : Value → Shared → Prop} {s : Shared} {z TI TO : Addr} {f0 : Value} {b0 : Bool} {Q : Bool → Shared → Prop} (hz : ZR s.heap z TI TO f0 b0) (hf : F0 f0) (h1 : Q true s)
    (h2 : ∀ h', ZR h' z TI TO f0 true → Heap.SameBut z s.heap h' → Q false { s with heap := h' }) : wpAny (model prog w) A (Builtin.SmallTypes.ownedTupleIsFree (.ref z)) Q E s := by
  unfold Builtin.SmallTypes.ownedTupleIsFree
  refine wpAny_bind (wpAny_field hz rfl (x := f0) rfl ?_)
  rcases hf with rfl | ⟨T, rfl⟩
  · exact wpAny_pure h1
  · show wpAny _ _ (loadIfAlive ((T : Int).toNat) >>= _) _ _ _
    refine wpAny_bind (alive_any ?_)
    cases s.heap.get? ((T : Int).toNat) with
    | none => exact wpAny_pure h1
    | some o =>
      simp only [Option.isNone_some, Bool.false_eq_true, if_false]
      refine wpAny_bind (wpAny_field hz rfl (x := .bool b0) rfl ?_)
      cases b0 with
      | true =>
        rw [if_neg (show ¬ ((Value.bool true != Value.bool true) = true) from Bool.false_ne_true)]
        exact wpAny_pure (h2 s.heap hz (Heap.SameBut.refl _ _))
      | false =>
        rw [if_pos (show (Value.bool false != Value.bool true) = true from rfl)]
        exact wpAny_bind (wpAny_setField_rec hz (by simp) fun g1 hz1 hs1 => wpAny_pure (h2 g1 hz1 hs1))
section
variable {prog : Program} {w : World} {A : Around} {E : Value → Shared → Prop} {s : Shared} {z TI TO i1 i2 : Addr} {fp1 fp2 : List Addr} {n1 n2 i : Nat} {P1 P2 : Nat → Value → Prop} {St1 St2 : Nat → Heap → Prop} {a1 a2 f0 : Value} {b0 : Bool}
theorem zx2_item {Q : Value → Shared → Prop} (S : ZipSep2 z TI TO i1 i2 fp1 fp2) (D1 : Draws prog w A i1 fp1 n1 P1 St1) (D2 : Draws prog w A i2 fp2 n2 P2 St2)
    (hz : ZR s.heap z TI TO f0 b0) (hf : F0 f0) (hTI : IsTupOf2 s.heap TI (.ref i1) (.ref i2)) (hTO : IsTupOf2 s.heap TO a1 a2) (st1 : St1 i s.heap) (st2 : St2 i s.heap) (hlt1 : i < n1) (hlt2 : i < n2)
    (hQ : ∀ x1 x2 h' tk f1 b1 y1 y2, P1 i x1 → P2 i x2 → ZR h' z TI TO f1 b1 → F0 f1 → IsTupOf2 h' TO y1 y2 → St1 (i + 1) h' → St2 (i + 1) h' → IsTupOf2 h' s.heap.objs.size x1 x2 → h'.objs.size = s.heap.objs.size + 1 →
      (∀ c o, c ≠ z → c ≠ TO → c ≠ i1 → c ≠ i2 → s.heap.get? c = some o → h'.get? c = some o) → Q (.ref s.heap.objs.size) { s with heap := h', toks := tk }) :
    wpAny (model prog w) A (Builtin.«zip.__next__» ⟨[.ref z], []⟩) (fun fin s' => ∃ v, fin = .done (.ret v) ∧ Q v s') E s := by
  obtain ⟨hp, g, d, tk0, os⟩ := s
  show wpAny _ _ (field (.ref z) 2 >>= _) _ _ _
  refine wpAny_bind (wpAny_field hz rfl (x := .bool false) rfl ?_)
  show wpAny _ _ (field (.ref z) 3 >>= _) _ _ _
  refine wpAny_bind (wpAny_field hz rfl (x := .ref TI) rfl ?_)
  refine wpAny_bind (wpAny_seqItems hTI rfl ?_)
  show wpAny _ _ (Builtin.SmallTypes.ownedTupleIsFree (.ref z) >>= _) _ _ _
  refine wpAny_bind (zfree hz hf ?_ ?_)
  · simp only [if_true]
    refine wpAny_bind (wpAny_rule ?_)
    refine wpAny_bind (wpAny_field hz rfl (x := .ref TO) rfl ?_)
    refine wpAny_bind (wpAny_setField_rec hz (by simp) fun g0 hz0 hs0 => ?_)
    replace hz0 : ZR g0 z TI TO .ellipsis b0 := hz0
    replace hs0 : Heap.SameBut z hp g0 := hs0
    refine wpAny_bind ?_
    simp only [List.zipIdx_cons, List.zipIdx_nil, List.forIn_cons, List.forIn_nil]
    refine wpAny_bind (wpAny_bind (wpAny_onRaise ?_))
    show wpAny _ _ (Builtin.SmallTypes.nextOf (.ref i1) >>= _) _ _ ⟨g0, g, d, tk0, os⟩
    refine wpAny_bind (D1.item i _ _ _ hlt1 (D1.over st1 hs0 S.zf1) fun x1 p1 tk1 hx1 sn1 hp1 => wpAny_pure ?_)
    replace hp1 : Heap.SameBut i1 g0 p1 := hp1
    have hU1 : IsTupOf2 p1 TO a1 a2 := hp1.extBut _ _ S.Ti1 (hs0.extBut _ _ S.TOz hTO)
    refine wpAny_bind (wpAny_seqItems (s := ⟨p1, g, d, tk1, os⟩) hU1 rfl ?_)
    refine wpAny_bind (updateSeq_IsTupOf2 (s := ⟨p1, g, d, tk1, os⟩) hU1 fun g1 hT1 hs1 => ?_)
    replace hT1 : IsTupOf2 g1 TO x1 a2 := hT1
    replace hs1 : Heap.SameBut TO p1 g1 := hs1
    refine wpAny_bind (wpAny_letGo (wpAny_pure ?_))
    refine wpAny_bind (wpAny_bind (wpAny_onRaise ?_))
    show wpAny _ _ (Builtin.SmallTypes.nextOf (.ref i2) >>= _) _ _ ⟨g1, g, d, tk1, os⟩
    refine wpAny_bind (D2.item i _ _ _ hlt2 (D2.over (D2.over (D2.over st2 hs0 S.zf2) hp1 S.sep1_2) hs1 S.Tf2) fun x2 p2 tk2 hx2 sn2 hp2 => wpAny_pure ?_)
    replace hp2 : Heap.SameBut i2 g1 p2 := hp2
    have hU2 : IsTupOf2 p2 TO x1 a2 := hp2.extBut _ _ S.Ti2 (hT1)
    refine wpAny_bind (wpAny_seqItems (s := ⟨p2, g, d, tk2, os⟩) hU2 rfl ?_)
    refine wpAny_bind (updateSeq_IsTupOf2 (s := ⟨p2, g, d, tk2, os⟩) hU2 fun g2 hT2 hs2 => ?_)
    replace hT2 : IsTupOf2 g2 TO x1 x2 := hT2
    replace hs2 : Heap.SameBut TO p2 g2 := hs2
    refine wpAny_bind (wpAny_letGo (wpAny_pure (wpAny_pure ?_)))
    refine wpAny_bind (wpAny_seqItems (s := ⟨g2, g, d, tk2, os⟩) hT2 rfl ?_)
    refine wpAny_bind (wpAny_newTuple ?_)
    have hsz : g2.objs.size = hp.objs.size := by rw [hs2.1, hp2.1, hs1.1, hp1.1, hs0.1]
    have hzz : ZR g2 z TI TO .ellipsis b0 := (hs2.extBut _ _ S.TOz.symm (hp2.extBut _ _ S.zi2 (hs1.extBut _ _ S.TOz.symm (hp1.extBut _ _ S.zi1 hz0))))
    have hkk : ∀ c o, c ≠ z → c ≠ TO → c ≠ i1 → c ≠ i2 → hp.get? c = some o → g2.get? c = some o := fun c o cz cT c1 c2 e => (hs2.extBut _ _ cT (hp2.extBut _ _ c2 (hs1.extBut _ _ cT (hp1.extBut _ _ c1 (hs0.extBut _ _ cz e)))))
    have hj1 : St1 (i + 1) g2 := (D1.over (D1.over (D1.over sn1 hs1 S.Tf1) hp2 S.sep2_1) hs2 S.Tf1)
    have hj2 : St2 (i + 1) g2 := (D2.over sn2 hs2 S.Tf2)
    have hzlt : z < g2.objs.size := Heap.lt_size hzz
    show wpAny _ _ (Builtin.SmallTypes.ownedTupleHandOut (.ref z) (.ref g2.objs.size) >>= _) _ _ ⟨g2.push { cls := .type "tuple", data := .seq #[x1, x2] }, g, d, tk2, os⟩
    refine wpAny_bind ?_
    unfold Builtin.SmallTypes.ownedTupleHandOut
    have z6 : ZR (g2.push { cls := .type "tuple", data := .seq #[x1, x2] }) z TI TO .ellipsis b0 := Heap.get?_push_of_some _ hzz
    refine wpAny_bind (wpAny_setField_rec z6 (by simp) fun h7 z7 s7 => ?_)
    replace z7 : ZR h7 z TI TO (rawInt g2.objs.size) b0 := z7
    refine wpAny_setField_rec z7 (by simp) fun h8 z8 s8 => ?_
    replace z8 : ZR h8 z TI TO (rawInt g2.objs.size) false := z8
    replace s7 : Heap.SameBut z (g2.push { cls := .type "tuple", data := .seq #[x1, x2] }) h7 := s7
    replace s8 : Heap.SameBut z h7 h8 := s8
    have up : ∀ c o, c ≠ z → g2.get? c = some o → h8.get? c = some o := fun c o c1 e => s8.extBut _ _ c1 (s7.extBut _ _ c1 (Heap.get?_push_of_some _ e))
    have t8 : IsTupOf2 h8 g2.objs.size x1 x2 := s8.extBut _ _ (Nat.ne_of_gt hzlt) (s7.extBut _ _ (Nat.ne_of_gt hzlt) (Heap.get?_push_size _ rfl))
    have n8 : h8.objs.size = g2.objs.size + 1 := by rw [s8.1, s7.1, Heap.size_push]
    rw [hsz] at z8 t8 n8
    refine wpAny_pure ⟨_, rfl, ?_⟩
    show Q (.ref g2.objs.size) ⟨h8, g, d, tk2, os⟩
    rw [hsz]
    exact hQ x1 x2 h8 tk2 _ _ x1 x2 hx1 hx2 z8 (.inr ⟨_, rfl⟩) (up _ _ S.TOz hT2) (D1.frame _ _ _ hj1 fun b hb o e => up b o (fun q => S.zf1 (q ▸ hb)) e) (D2.frame _ _ _ hj2 fun b hb o e => up b o (fun q => S.zf2 (q ▸ hb)) e) t8 n8 fun c o cz cT c1 c2 e => up c o cz (hkk c o cz cT c1 c2 e)
  · intro g0 hz0 hs0
    replace hz0 : ZR g0 z TI TO f0 true := hz0
    replace hs0 : Heap.SameBut z hp g0 := hs0
    simp only [Bool.false_eq_true, if_false]
    refine wpAny_bind ?_
    rw [← Array.forIn_toList]
    simp only [List.forIn_cons, List.forIn_nil]
    refine wpAny_bind (wpAny_bind (wpAny_holding ?_))
    show wpAny _ _ (Builtin.SmallTypes.nextOf (.ref i1) >>= _) _ _ ⟨g0, g, d, tk0, os⟩
    refine wpAny_bind (D1.item i _ _ _ hlt1 (D1.over st1 hs0 S.zf1) fun x1 p1 tk1 hx1 sn1 hp1 => wpAny_pure ?_)
    replace hp1 : Heap.SameBut i1 g0 p1 := hp1
    refine wpAny_pure ?_
    refine wpAny_bind (wpAny_bind (wpAny_holding ?_))
    show wpAny _ _ (Builtin.SmallTypes.nextOf (.ref i2) >>= _) _ _ ⟨p1, g, d, tk1, os⟩
    refine wpAny_bind (D2.item i _ _ _ hlt2 (D2.over (D2.over st2 hs0 S.zf2) hp1 S.sep1_2) fun x2 p2 tk2 hx2 sn2 hp2 => wpAny_pure ?_)
    replace hp2 : Heap.SameBut i2 p1 p2 := hp2
    refine wpAny_pure (wpAny_pure ?_)
    show wpAny _ _ (newTuple [x1, x2] >>= _) _ _ ⟨p2, g, d, tk2, os⟩
    refine wpAny_bind (wpAny_newTuple (wpAny_pure ⟨_, rfl, ?_⟩))
    have hsz : p2.objs.size = hp.objs.size := by rw [hp2.1, hp1.1, hs0.1]
    have hzz : ZR p2 z TI TO f0 true := (hp2.extBut _ _ S.zi2 (hp1.extBut _ _ S.zi1 hz0))
    have hT : IsTupOf2 p2 TO a1 a2 := (hp2.extBut _ _ S.Ti2 (hp1.extBut _ _ S.Ti1 (hs0.extBut _ _ S.TOz hTO)))
    have hkk : ∀ c o, c ≠ z → c ≠ TO → c ≠ i1 → c ≠ i2 → hp.get? c = some o → p2.get? c = some o := fun c o cz cT c1 c2 e => (hp2.extBut _ _ c2 (hp1.extBut _ _ c1 (hs0.extBut _ _ cz e)))
    have hj1 : St1 (i + 1) p2 := (D1.over sn1 hp2 S.sep2_1)
    have hj2 : St2 (i + 1) p2 := sn2
    show Q (.ref p2.objs.size) _
    have t8 : IsTupOf2 (p2.push { cls := .type "tuple", data := .seq #[x1, x2] }) p2.objs.size x1 x2 := Heap.get?_push_size _ rfl
    have n8 : (p2.push { cls := .type "tuple", data := .seq #[x1, x2] }).objs.size = p2.objs.size + 1 := Heap.size_push ..
    rw [hsz] at t8 n8 ⊢
    exact hQ x1 x2 _ tk2 _ _ a1 a2 hx1 hx2 (Heap.get?_push_of_some _ hzz) hf (Heap.get?_push_of_some _ hT) (D1.frame _ _ _ hj1 fun b hb o e => Heap.get?_push_of_some _ e) (D2.frame _ _ _ hj2 fun b hb o e => Heap.get?_push_of_some _ e) t8 n8 fun c o cz cT c1 c2 e => Heap.get?_push_of_some _ (hkk c o cz cT c1 c2 e)
theorem zx2_end {Q : Fin → Shared → Prop} (S : ZipSep2 z TI TO i1 i2 fp1 fp2) (D1 : Draws prog w A i1 fp1 n1 P1 St1) (D2 : Draws prog w A i2 fp2 n2 P2 St2)
    (hz : ZR s.heap z TI TO f0 b0) (hf : F0 f0) (hTI : IsTupOf2 s.heap TI (.ref i1) (.ref i2)) (hTO : IsTupOf2 s.heap TO a1 a2) (st1 : St1 i s.heap) (st2 : St2 i s.heap) (hle1 : i ≤ n1) (hle2 : i ≤ n2) (hend : i = n1 ∨ i = n2)
    (hE : ∀ h' tk e, (∀ c o, c ≠ z → c ≠ TO → c ≠ i1 → c ≠ i2 → s.heap.get? c = some o → h'.get? c = some o) → (∃ o, h'.get? e = some o ∧ o.cls = .type "StopIteration") → E (.ref e) { s with heap := h', toks := tk }) :
    wpAny (model prog w) A (Builtin.«zip.__next__» ⟨[.ref z], []⟩) Q E s := by
  obtain ⟨hp, g, d, tk0, os⟩ := s
  show wpAny _ _ (field (.ref z) 2 >>= _) _ _ _
  refine wpAny_bind (wpAny_field hz rfl (x := .bool false) rfl ?_)
  show wpAny _ _ (field (.ref z) 3 >>= _) _ _ _
  refine wpAny_bind (wpAny_field hz rfl (x := .ref TI) rfl ?_)
  refine wpAny_bind (wpAny_seqItems hTI rfl ?_)
  show wpAny _ _ (Builtin.SmallTypes.ownedTupleIsFree (.ref z) >>= _) _ _ _
  refine wpAny_bind (zfree hz hf ?_ ?_)
  · simp only [if_true]
    refine wpAny_bind (wpAny_rule ?_)
    refine wpAny_bind (wpAny_field hz rfl (x := .ref TO) rfl ?_)
    refine wpAny_bind (wpAny_setField_rec hz (by simp) fun g0 hz0 hs0 => ?_)
    replace hz0 : ZR g0 z TI TO .ellipsis b0 := hz0
    replace hs0 : Heap.SameBut z hp g0 := hs0
    refine wpAny_bind ?_
    simp only [List.zipIdx_cons, List.zipIdx_nil, List.forIn_cons, List.forIn_nil]
    refine wpAny_bind (wpAny_bind (wpAny_onRaise ?_))
    show wpAny _ _ (Builtin.SmallTypes.nextOf (.ref i1) >>= _) _ _ ⟨g0, g, d, tk0, os⟩
    rcases Nat.lt_or_eq_of_le hle1 with hlt1 | hq0
    · refine wpAny_bind (D1.item i _ _ _ hlt1 (D1.over st1 hs0 S.zf1) fun x1 p1 tk1 hx1 sn1 hp1 => wpAny_pure ?_)
      replace hp1 : Heap.SameBut i1 g0 p1 := hp1
      have hU1 : IsTupOf2 p1 TO a1 a2 := hp1.extBut _ _ S.Ti1 (hs0.extBut _ _ S.TOz hTO)
      refine wpAny_bind (wpAny_seqItems (s := ⟨p1, g, d, tk1, os⟩) hU1 rfl ?_)
      refine wpAny_bind (updateSeq_IsTupOf2 (s := ⟨p1, g, d, tk1, os⟩) hU1 fun g1 hT1 hs1 => ?_)
      replace hT1 : IsTupOf2 g1 TO x1 a2 := hT1
      replace hs1 : Heap.SameBut TO p1 g1 := hs1
      refine wpAny_bind (wpAny_letGo (wpAny_pure ?_))
      refine wpAny_bind (wpAny_bind (wpAny_onRaise ?_))
      show wpAny _ _ (Builtin.SmallTypes.nextOf (.ref i2) >>= _) _ _ ⟨g1, g, d, tk1, os⟩
      have hi2 : i = n2 := by omega
      refine wpAny_bind (D2.done ⟨g1, g, d, tk1, os⟩ _ _ (by rw [← hi2]; exact (D2.over (D2.over (D2.over st2 hs0 S.zf2) hp1 S.sep1_2) hs1 S.Tf2)) fun q e hq he => ?_)
      replace hq : Heap.ExtBut i2 g1 q := hq
      obtain ⟨oe, hoe, hce⟩ := he
      replace hoe : q.get? e = some oe := hoe
      have hzq : ZR q z TI TO .ellipsis b0 := hq _ _ S.zi2 (hs1.extBut _ _ S.TOz.symm (hp1.extBut _ _ S.zi1 hz0))
      have hez : e ≠ z := fun x => by subst x; rw [hzq] at hoe; cases hoe; simp at hce
      refine wpAny_setField_rec (s := ⟨q, g, d, tk1, os⟩) hzq (by simp) fun q' _ hq' => ?_
      replace hq' : Heap.SameBut z q q' := hq'
      exact hE q' tk1 e (fun c o cz cT c1 c2 x => hq'.extBut _ _ cz (hq _ _ c2 (hs1.extBut _ _ cT (hp1.extBut _ _ c1 (hs0.extBut _ _ cz x))))) ⟨oe, hq'.extBut _ _ hez hoe, hce⟩
    · have hi1 : i = n1 := by omega
      refine wpAny_bind (D1.done ⟨g0, g, d, tk0, os⟩ _ _ (by rw [← hi1]; exact (D1.over st1 hs0 S.zf1)) fun q e hq he => ?_)
      replace hq : Heap.ExtBut i1 g0 q := hq
      obtain ⟨oe, hoe, hce⟩ := he
      replace hoe : q.get? e = some oe := hoe
      have hzq : ZR q z TI TO .ellipsis b0 := hq _ _ S.zi1 hz0
      have hez : e ≠ z := fun x => by subst x; rw [hzq] at hoe; cases hoe; simp at hce
      refine wpAny_setField_rec (s := ⟨q, g, d, tk0, os⟩) hzq (by simp) fun q' _ hq' => ?_
      replace hq' : Heap.SameBut z q q' := hq'
      exact hE q' tk0 e (fun c o cz cT c1 c2 x => hq'.extBut _ _ cz (hq _ _ c1 (hs0.extBut _ _ cz x))) ⟨oe, hq'.extBut _ _ hez hoe, hce⟩
  · intro g0 hz0 hs0
    replace hz0 : ZR g0 z TI TO f0 true := hz0
    replace hs0 : Heap.SameBut z hp g0 := hs0
    simp only [Bool.false_eq_true, if_false]
    refine wpAny_bind ?_
    rw [← Array.forIn_toList]
    simp only [List.forIn_cons, List.forIn_nil]
    refine wpAny_bind (wpAny_bind (wpAny_holding ?_))
    show wpAny _ _ (Builtin.SmallTypes.nextOf (.ref i1) >>= _) _ _ ⟨g0, g, d, tk0, os⟩
    rcases Nat.lt_or_eq_of_le hle1 with hlt1 | hq0
    · refine wpAny_bind (D1.item i _ _ _ hlt1 (D1.over st1 hs0 S.zf1) fun x1 p1 tk1 hx1 sn1 hp1 => wpAny_pure ?_)
      replace hp1 : Heap.SameBut i1 g0 p1 := hp1
      refine wpAny_pure ?_
      refine wpAny_bind (wpAny_bind (wpAny_holding ?_))
      show wpAny _ _ (Builtin.SmallTypes.nextOf (.ref i2) >>= _) _ _ ⟨p1, g, d, tk1, os⟩
      have hi2 : i = n2 := by omega
      refine wpAny_bind (D2.done ⟨p1, g, d, tk1, os⟩ _ _ (by rw [← hi2]; exact (D2.over (D2.over st2 hs0 S.zf2) hp1 S.sep1_2)) fun q e hq he => ?_)
      replace hq : Heap.ExtBut i2 p1 q := hq
      exact hE q tk1 e (fun c o cz cT c1 c2 x => hq _ _ c2 (hp1.extBut _ _ c1 (hs0.extBut _ _ cz x))) he
    · have hi1 : i = n1 := by omega
      refine wpAny_bind (D1.done ⟨g0, g, d, tk0, os⟩ _ _ (by rw [← hi1]; exact (D1.over st1 hs0 S.zf1)) fun q e hq he => ?_)
      replace hq : Heap.ExtBut i1 g0 q := hq
      exact hE q tk0 e (fun c o cz cT c1 c2 x => hq _ _ c1 (hs0.extBut _ _ cz x)) he
end
section
variable {prog : Program} {w : World} {A : Around} {E : Value → Shared → Prop} {s : Shared} {z TI TO i1 i2 i3 : Addr} {fp1 fp2 fp3 : List Addr} {n1 n2 n3 i : Nat} {P1 P2 P3 : Nat → Value → Prop} {St1 St2 St3 : Nat → Heap → Prop} {a1 a2 a3 f0 : Value} {b0 : Bool}
theorem zx3_item {Q : Value → Shared → Prop} (S : ZipSep3 z TI TO i1 i2 i3 fp1 fp2 fp3) (D1 : Draws prog w A i1 fp1 n1 P1 St1) (D2 : Draws prog w A i2 fp2 n2 P2 St2) (D3 : Draws prog w A i3 fp3 n3 P3 St3)
    (hz : ZR s.heap z TI TO f0 b0) (hf : F0 f0) (hTI : IsTupOf3 s.heap TI (.ref i1) (.ref i2) (.ref i3)) (hTO : IsTupOf3 s.heap TO a1 a2 a3) (st1 : St1 i s.heap) (st2 : St2 i s.heap) (st3 : St3 i s.heap) (hlt1 : i < n1) (hlt2 : i < n2) (hlt3 : i < n3)
    (hQ : ∀ x1 x2 x3 h' tk f1 b1 y1 y2 y3, P1 i x1 → P2 i x2 → P3 i x3 → ZR h' z TI TO f1 b1 → F0 f1 → IsTupOf3 h' TO y1 y2 y3 → St1 (i + 1) h' → St2 (i + 1) h' → St3 (i + 1) h' → IsTupOf3 h' s.heap.objs.size x1 x2 x3 → h'.objs.size = s.heap.objs.size + 1 →
      (∀ c o, c ≠ z → c ≠ TO → c ≠ i1 → c ≠ i2 → c ≠ i3 → s.heap.get? c = some o → h'.get? c = some o) → Q (.ref s.heap.objs.size) { s with heap := h', toks := tk }) :
    wpAny (model prog w) A (Builtin.«zip.__next__» ⟨[.ref z], []⟩) (fun fin s' => ∃ v, fin = .done (.ret v) ∧ Q v s') E s := by
  obtain ⟨hp, g, d, tk0, os⟩ := s
  show wpAny _ _ (field (.ref z) 2 >>= _) _ _ _
  refine wpAny_bind (wpAny_field hz rfl (x := .bool false) rfl ?_)
  show wpAny _ _ (field (.ref z) 3 >>= _) _ _ _
  refine wpAny_bind (wpAny_field hz rfl (x := .ref TI) rfl ?_)
  refine wpAny_bind (wpAny_seqItems hTI rfl ?_)
  show wpAny _ _ (Builtin.SmallTypes.ownedTupleIsFree (.ref z) >>= _) _ _ _
  refine wpAny_bind (zfree hz hf ?_ ?_)
  · simp only [if_true]
    refine wpAny_bind (wpAny_rule ?_)
    refine wpAny_bind (wpAny_field hz rfl (x := .ref TO) rfl ?_)
    refine wpAny_bind (wpAny_setField_rec hz (by simp) fun g0 hz0 hs0 => ?_)
    replace hz0 : ZR g0 z TI TO .ellipsis b0 := hz0
    replace hs0 : Heap.SameBut z hp g0 := hs0
    refine wpAny_bind ?_
    simp only [List.zipIdx_cons, List.zipIdx_nil, List.forIn_cons, List.forIn_nil]
    refine wpAny_bind (wpAny_bind (wpAny_onRaise ?_))
    show wpAny _ _ (Builtin.SmallTypes.nextOf (.ref i1) >>= _) _ _ ⟨g0, g, d, tk0, os⟩
    refine wpAny_bind (D1.item i _ _ _ hlt1 (D1.over st1 hs0 S.zf1) fun x1 p1 tk1 hx1 sn1 hp1 => wpAny_pure ?_)
    replace hp1 : Heap.SameBut i1 g0 p1 := hp1
    have hU1 : IsTupOf3 p1 TO a1 a2 a3 := hp1.extBut _ _ S.Ti1 (hs0.extBut _ _ S.TOz hTO)
    refine wpAny_bind (wpAny_seqItems (s := ⟨p1, g, d, tk1, os⟩) hU1 rfl ?_)
    refine wpAny_bind (updateSeq_IsTupOf3 (s := ⟨p1, g, d, tk1, os⟩) hU1 fun g1 hT1 hs1 => ?_)
    replace hT1 : IsTupOf3 g1 TO x1 a2 a3 := hT1
    replace hs1 : Heap.SameBut TO p1 g1 := hs1
    refine wpAny_bind (wpAny_letGo (wpAny_pure ?_))
    refine wpAny_bind (wpAny_bind (wpAny_onRaise ?_))
    show wpAny _ _ (Builtin.SmallTypes.nextOf (.ref i2) >>= _) _ _ ⟨g1, g, d, tk1, os⟩
    refine wpAny_bind (D2.item i _ _ _ hlt2 (D2.over (D2.over (D2.over st2 hs0 S.zf2) hp1 S.sep1_2) hs1 S.Tf2) fun x2 p2 tk2 hx2 sn2 hp2 => wpAny_pure ?_)
    replace hp2 : Heap.SameBut i2 g1 p2 := hp2
    have hU2 : IsTupOf3 p2 TO x1 a2 a3 := hp2.extBut _ _ S.Ti2 (hT1)
    refine wpAny_bind (wpAny_seqItems (s := ⟨p2, g, d, tk2, os⟩) hU2 rfl ?_)
    refine wpAny_bind (updateSeq_IsTupOf3 (s := ⟨p2, g, d, tk2, os⟩) hU2 fun g2 hT2 hs2 => ?_)
    replace hT2 : IsTupOf3 g2 TO x1 x2 a3 := hT2
    replace hs2 : Heap.SameBut TO p2 g2 := hs2
    refine wpAny_bind (wpAny_letGo (wpAny_pure ?_))
    refine wpAny_bind (wpAny_bind (wpAny_onRaise ?_))
    show wpAny _ _ (Builtin.SmallTypes.nextOf (.ref i3) >>= _) _ _ ⟨g2, g, d, tk2, os⟩
    refine wpAny_bind (D3.item i _ _ _ hlt3 (D3.over (D3.over (D3.over (D3.over (D3.over st3 hs0 S.zf3) hp1 S.sep1_3) hs1 S.Tf3) hp2 S.sep2_3) hs2 S.Tf3) fun x3 p3 tk3 hx3 sn3 hp3 => wpAny_pure ?_)
    replace hp3 : Heap.SameBut i3 g2 p3 := hp3
    have hU3 : IsTupOf3 p3 TO x1 x2 a3 := hp3.extBut _ _ S.Ti3 (hT2)
    refine wpAny_bind (wpAny_seqItems (s := ⟨p3, g, d, tk3, os⟩) hU3 rfl ?_)
    refine wpAny_bind (updateSeq_IsTupOf3 (s := ⟨p3, g, d, tk3, os⟩) hU3 fun g3 hT3 hs3 => ?_)
    replace hT3 : IsTupOf3 g3 TO x1 x2 x3 := hT3
    replace hs3 : Heap.SameBut TO p3 g3 := hs3
    refine wpAny_bind (wpAny_letGo (wpAny_pure (wpAny_pure ?_)))
    refine wpAny_bind (wpAny_seqItems (s := ⟨g3, g, d, tk3, os⟩) hT3 rfl ?_)
    refine wpAny_bind (wpAny_newTuple ?_)
    have hsz : g3.objs.size = hp.objs.size := by rw [hs3.1, hp3.1, hs2.1, hp2.1, hs1.1, hp1.1, hs0.1]
    have hzz : ZR g3 z TI TO .ellipsis b0 := (hs3.extBut _ _ S.TOz.symm (hp3.extBut _ _ S.zi3 (hs2.extBut _ _ S.TOz.symm (hp2.extBut _ _ S.zi2 (hs1.extBut _ _ S.TOz.symm (hp1.extBut _ _ S.zi1 hz0))))))
    have hkk : ∀ c o, c ≠ z → c ≠ TO → c ≠ i1 → c ≠ i2 → c ≠ i3 → hp.get? c = some o → g3.get? c = some o := fun c o cz cT c1 c2 c3 e => (hs3.extBut _ _ cT (hp3.extBut _ _ c3 (hs2.extBut _ _ cT (hp2.extBut _ _ c2 (hs1.extBut _ _ cT (hp1.extBut _ _ c1 (hs0.extBut _ _ cz e)))))))
    have hj1 : St1 (i + 1) g3 := (D1.over (D1.over (D1.over (D1.over (D1.over sn1 hs1 S.Tf1) hp2 S.sep2_1) hs2 S.Tf1) hp3 S.sep3_1) hs3 S.Tf1)
    have hj2 : St2 (i + 1) g3 := (D2.over (D2.over (D2.over sn2 hs2 S.Tf2) hp3 S.sep3_2) hs3 S.Tf2)
    have hj3 : St3 (i + 1) g3 := (D3.over sn3 hs3 S.Tf3)
    have hzlt : z < g3.objs.size := Heap.lt_size hzz
    show wpAny _ _ (Builtin.SmallTypes.ownedTupleHandOut (.ref z) (.ref g3.objs.size) >>= _) _ _ ⟨g3.push { cls := .type "tuple", data := .seq #[x1, x2, x3] }, g, d, tk3, os⟩
    refine wpAny_bind ?_
    unfold Builtin.SmallTypes.ownedTupleHandOut
    have z6 : ZR (g3.push { cls := .type "tuple", data := .seq #[x1, x2, x3] }) z TI TO .ellipsis b0 := Heap.get?_push_of_some _ hzz
    refine wpAny_bind (wpAny_setField_rec z6 (by simp) fun h7 z7 s7 => ?_)
    replace z7 : ZR h7 z TI TO (rawInt g3.objs.size) b0 := z7
    refine wpAny_setField_rec z7 (by simp) fun h8 z8 s8 => ?_
    replace z8 : ZR h8 z TI TO (rawInt g3.objs.size) false := z8
    replace s7 : Heap.SameBut z (g3.push { cls := .type "tuple", data := .seq #[x1, x2, x3] }) h7 := s7
    replace s8 : Heap.SameBut z h7 h8 := s8
    have up : ∀ c o, c ≠ z → g3.get? c = some o → h8.get? c = some o := fun c o c1 e => s8.extBut _ _ c1 (s7.extBut _ _ c1 (Heap.get?_push_of_some _ e))
    have t8 : IsTupOf3 h8 g3.objs.size x1 x2 x3 := s8.extBut _ _ (Nat.ne_of_gt hzlt) (s7.extBut _ _ (Nat.ne_of_gt hzlt) (Heap.get?_push_size _ rfl))
    have n8 : h8.objs.size = g3.objs.size + 1 := by rw [s8.1, s7.1, Heap.size_push]
    rw [hsz] at z8 t8 n8
    refine wpAny_pure ⟨_, rfl, ?_⟩
    show Q (.ref g3.objs.size) ⟨h8, g, d, tk3, os⟩
    rw [hsz]
    exact hQ x1 x2 x3 h8 tk3 _ _ x1 x2 x3 hx1 hx2 hx3 z8 (.inr ⟨_, rfl⟩) (up _ _ S.TOz hT3) (D1.frame _ _ _ hj1 fun b hb o e => up b o (fun q => S.zf1 (q ▸ hb)) e) (D2.frame _ _ _ hj2 fun b hb o e => up b o (fun q => S.zf2 (q ▸ hb)) e) (D3.frame _ _ _ hj3 fun b hb o e => up b o (fun q => S.zf3 (q ▸ hb)) e) t8 n8 fun c o cz cT c1 c2 c3 e => up c o cz (hkk c o cz cT c1 c2 c3 e)
  · intro g0 hz0 hs0
    replace hz0 : ZR g0 z TI TO f0 true := hz0
    replace hs0 : Heap.SameBut z hp g0 := hs0
    simp only [Bool.false_eq_true, if_false]
    refine wpAny_bind ?_
    rw [← Array.forIn_toList]
    simp only [List.forIn_cons, List.forIn_nil]
    refine wpAny_bind (wpAny_bind (wpAny_holding ?_))
    show wpAny _ _ (Builtin.SmallTypes.nextOf (.ref i1) >>= _) _ _ ⟨g0, g, d, tk0, os⟩
    refine wpAny_bind (D1.item i _ _ _ hlt1 (D1.over st1 hs0 S.zf1) fun x1 p1 tk1 hx1 sn1 hp1 => wpAny_pure ?_)
    replace hp1 : Heap.SameBut i1 g0 p1 := hp1
    refine wpAny_pure ?_
    refine wpAny_bind (wpAny_bind (wpAny_holding ?_))
    show wpAny _ _ (Builtin.SmallTypes.nextOf (.ref i2) >>= _) _ _ ⟨p1, g, d, tk1, os⟩
    refine wpAny_bind (D2.item i _ _ _ hlt2 (D2.over (D2.over st2 hs0 S.zf2) hp1 S.sep1_2) fun x2 p2 tk2 hx2 sn2 hp2 => wpAny_pure ?_)
    replace hp2 : Heap.SameBut i2 p1 p2 := hp2
    refine wpAny_pure ?_
    refine wpAny_bind (wpAny_bind (wpAny_holding ?_))
    show wpAny _ _ (Builtin.SmallTypes.nextOf (.ref i3) >>= _) _ _ ⟨p2, g, d, tk2, os⟩
    refine wpAny_bind (D3.item i _ _ _ hlt3 (D3.over (D3.over (D3.over st3 hs0 S.zf3) hp1 S.sep1_3) hp2 S.sep2_3) fun x3 p3 tk3 hx3 sn3 hp3 => wpAny_pure ?_)
    replace hp3 : Heap.SameBut i3 p2 p3 := hp3
    refine wpAny_pure (wpAny_pure ?_)
    show wpAny _ _ (newTuple [x1, x2, x3] >>= _) _ _ ⟨p3, g, d, tk3, os⟩
    refine wpAny_bind (wpAny_newTuple (wpAny_pure ⟨_, rfl, ?_⟩))
    have hsz : p3.objs.size = hp.objs.size := by rw [hp3.1, hp2.1, hp1.1, hs0.1]
    have hzz : ZR p3 z TI TO f0 true := (hp3.extBut _ _ S.zi3 (hp2.extBut _ _ S.zi2 (hp1.extBut _ _ S.zi1 hz0)))
    have hT : IsTupOf3 p3 TO a1 a2 a3 := (hp3.extBut _ _ S.Ti3 (hp2.extBut _ _ S.Ti2 (hp1.extBut _ _ S.Ti1 (hs0.extBut _ _ S.TOz hTO))))
    have hkk : ∀ c o, c ≠ z → c ≠ TO → c ≠ i1 → c ≠ i2 → c ≠ i3 → hp.get? c = some o → p3.get? c = some o := fun c o cz cT c1 c2 c3 e => (hp3.extBut _ _ c3 (hp2.extBut _ _ c2 (hp1.extBut _ _ c1 (hs0.extBut _ _ cz e))))
    have hj1 : St1 (i + 1) p3 := (D1.over (D1.over sn1 hp2 S.sep2_1) hp3 S.sep3_1)
    have hj2 : St2 (i + 1) p3 := (D2.over sn2 hp3 S.sep3_2)
    have hj3 : St3 (i + 1) p3 := sn3
    show Q (.ref p3.objs.size) _
    have t8 : IsTupOf3 (p3.push { cls := .type "tuple", data := .seq #[x1, x2, x3] }) p3.objs.size x1 x2 x3 := Heap.get?_push_size _ rfl
    have n8 : (p3.push { cls := .type "tuple", data := .seq #[x1, x2, x3] }).objs.size = p3.objs.size + 1 := Heap.size_push ..
    rw [hsz] at t8 n8 ⊢
    exact hQ x1 x2 x3 _ tk3 _ _ a1 a2 a3 hx1 hx2 hx3 (Heap.get?_push_of_some _ hzz) hf (Heap.get?_push_of_some _ hT) (D1.frame _ _ _ hj1 fun b hb o e => Heap.get?_push_of_some _ e) (D2.frame _ _ _ hj2 fun b hb o e => Heap.get?_push_of_some _ e) (D3.frame _ _ _ hj3 fun b hb o e => Heap.get?_push_of_some _ e) t8 n8 fun c o cz cT c1 c2 c3 e => Heap.get?_push_of_some _ (hkk c o cz cT c1 c2 c3 e)
theorem zx3_end {Q : Fin → Shared → Prop} (S : ZipSep3 z TI TO i1 i2 i3 fp1 fp2 fp3) (D1 : Draws prog w A i1 fp1 n1 P1 St1) (D2 : Draws prog w A i2 fp2 n2 P2 St2) (D3 : Draws prog w A i3 fp3 n3 P3 St3)
    (hz : ZR s.heap z TI TO f0 b0) (hf : F0 f0) (hTI : IsTupOf3 s.heap TI (.ref i1) (.ref i2) (.ref i3)) (hTO : IsTupOf3 s.heap TO a1 a2 a3) (st1 : St1 i s.heap) (st2 : St2 i s.heap) (st3 : St3 i s.heap) (hle1 : i ≤ n1) (hle2 : i ≤ n2) (hle3 : i ≤ n3) (hend : i = n1 ∨ i = n2 ∨ i = n3)
    (hE : ∀ h' tk e, (∀ c o, c ≠ z → c ≠ TO → c ≠ i1 → c ≠ i2 → c ≠ i3 → s.heap.get? c = some o → h'.get? c = some o) → (∃ o, h'.get? e = some o ∧ o.cls = .type "StopIteration") → E (.ref e) { s with heap := h', toks := tk }) :
    wpAny (model prog w) A (Builtin.«zip.__next__» ⟨[.ref z], []⟩) Q E s := by
  obtain ⟨hp, g, d, tk0, os⟩ := s
  show wpAny _ _ (field (.ref z) 2 >>= _) _ _ _
  refine wpAny_bind (wpAny_field hz rfl (x := .bool false) rfl ?_)
  show wpAny _ _ (field (.ref z) 3 >>= _) _ _ _
  refine wpAny_bind (wpAny_field hz rfl (x := .ref TI) rfl ?_)
  refine wpAny_bind (wpAny_seqItems hTI rfl ?_)
  show wpAny _ _ (Builtin.SmallTypes.ownedTupleIsFree (.ref z) >>= _) _ _ _
  refine wpAny_bind (zfree hz hf ?_ ?_)
  · simp only [if_true]
    refine wpAny_bind (wpAny_rule ?_)
    refine wpAny_bind (wpAny_field hz rfl (x := .ref TO) rfl ?_)
    refine wpAny_bind (wpAny_setField_rec hz (by simp) fun g0 hz0 hs0 => ?_)
    replace hz0 : ZR g0 z TI TO .ellipsis b0 := hz0
    replace hs0 : Heap.SameBut z hp g0 := hs0
    refine wpAny_bind ?_
    simp only [List.zipIdx_cons, List.zipIdx_nil, List.forIn_cons, List.forIn_nil]
    refine wpAny_bind (wpAny_bind (wpAny_onRaise ?_))
    show wpAny _ _ (Builtin.SmallTypes.nextOf (.ref i1) >>= _) _ _ ⟨g0, g, d, tk0, os⟩
    rcases Nat.lt_or_eq_of_le hle1 with hlt1 | hq0
    · refine wpAny_bind (D1.item i _ _ _ hlt1 (D1.over st1 hs0 S.zf1) fun x1 p1 tk1 hx1 sn1 hp1 => wpAny_pure ?_)
      replace hp1 : Heap.SameBut i1 g0 p1 := hp1
      have hU1 : IsTupOf3 p1 TO a1 a2 a3 := hp1.extBut _ _ S.Ti1 (hs0.extBut _ _ S.TOz hTO)
      refine wpAny_bind (wpAny_seqItems (s := ⟨p1, g, d, tk1, os⟩) hU1 rfl ?_)
      refine wpAny_bind (updateSeq_IsTupOf3 (s := ⟨p1, g, d, tk1, os⟩) hU1 fun g1 hT1 hs1 => ?_)
      replace hT1 : IsTupOf3 g1 TO x1 a2 a3 := hT1
      replace hs1 : Heap.SameBut TO p1 g1 := hs1
      refine wpAny_bind (wpAny_letGo (wpAny_pure ?_))
      refine wpAny_bind (wpAny_bind (wpAny_onRaise ?_))
      show wpAny _ _ (Builtin.SmallTypes.nextOf (.ref i2) >>= _) _ _ ⟨g1, g, d, tk1, os⟩
      rcases Nat.lt_or_eq_of_le hle2 with hlt2 | hq0
      · refine wpAny_bind (D2.item i _ _ _ hlt2 (D2.over (D2.over (D2.over st2 hs0 S.zf2) hp1 S.sep1_2) hs1 S.Tf2) fun x2 p2 tk2 hx2 sn2 hp2 => wpAny_pure ?_)
        replace hp2 : Heap.SameBut i2 g1 p2 := hp2
        have hU2 : IsTupOf3 p2 TO x1 a2 a3 := hp2.extBut _ _ S.Ti2 (hT1)
        refine wpAny_bind (wpAny_seqItems (s := ⟨p2, g, d, tk2, os⟩) hU2 rfl ?_)
        refine wpAny_bind (updateSeq_IsTupOf3 (s := ⟨p2, g, d, tk2, os⟩) hU2 fun g2 hT2 hs2 => ?_)
        replace hT2 : IsTupOf3 g2 TO x1 x2 a3 := hT2
        replace hs2 : Heap.SameBut TO p2 g2 := hs2
        refine wpAny_bind (wpAny_letGo (wpAny_pure ?_))
        refine wpAny_bind (wpAny_bind (wpAny_onRaise ?_))
        show wpAny _ _ (Builtin.SmallTypes.nextOf (.ref i3) >>= _) _ _ ⟨g2, g, d, tk2, os⟩
        have hi3 : i = n3 := by omega
        refine wpAny_bind (D3.done ⟨g2, g, d, tk2, os⟩ _ _ (by rw [← hi3]; exact (D3.over (D3.over (D3.over (D3.over (D3.over st3 hs0 S.zf3) hp1 S.sep1_3) hs1 S.Tf3) hp2 S.sep2_3) hs2 S.Tf3)) fun q e hq he => ?_)
        replace hq : Heap.ExtBut i3 g2 q := hq
        obtain ⟨oe, hoe, hce⟩ := he
        replace hoe : q.get? e = some oe := hoe
        have hzq : ZR q z TI TO .ellipsis b0 := hq _ _ S.zi3 (hs2.extBut _ _ S.TOz.symm (hp2.extBut _ _ S.zi2 (hs1.extBut _ _ S.TOz.symm (hp1.extBut _ _ S.zi1 hz0))))
        have hez : e ≠ z := fun x => by subst x; rw [hzq] at hoe; cases hoe; simp at hce
        refine wpAny_setField_rec (s := ⟨q, g, d, tk2, os⟩) hzq (by simp) fun q' _ hq' => ?_
        replace hq' : Heap.SameBut z q q' := hq'
        exact hE q' tk2 e (fun c o cz cT c1 c2 c3 x => hq'.extBut _ _ cz (hq _ _ c3 (hs2.extBut _ _ cT (hp2.extBut _ _ c2 (hs1.extBut _ _ cT (hp1.extBut _ _ c1 (hs0.extBut _ _ cz x))))))) ⟨oe, hq'.extBut _ _ hez hoe, hce⟩
      · have hi2 : i = n2 := by omega
        refine wpAny_bind (D2.done ⟨g1, g, d, tk1, os⟩ _ _ (by rw [← hi2]; exact (D2.over (D2.over (D2.over st2 hs0 S.zf2) hp1 S.sep1_2) hs1 S.Tf2)) fun q e hq he => ?_)
        replace hq : Heap.ExtBut i2 g1 q := hq
        obtain ⟨oe, hoe, hce⟩ := he
        replace hoe : q.get? e = some oe := hoe
        have hzq : ZR q z TI TO .ellipsis b0 := hq _ _ S.zi2 (hs1.extBut _ _ S.TOz.symm (hp1.extBut _ _ S.zi1 hz0))
        have hez : e ≠ z := fun x => by subst x; rw [hzq] at hoe; cases hoe; simp at hce
        refine wpAny_setField_rec (s := ⟨q, g, d, tk1, os⟩) hzq (by simp) fun q' _ hq' => ?_
        replace hq' : Heap.SameBut z q q' := hq'
        exact hE q' tk1 e (fun c o cz cT c1 c2 c3 x => hq'.extBut _ _ cz (hq _ _ c2 (hs1.extBut _ _ cT (hp1.extBut _ _ c1 (hs0.extBut _ _ cz x))))) ⟨oe, hq'.extBut _ _ hez hoe, hce⟩
    · have hi1 : i = n1 := by omega
      refine wpAny_bind (D1.done ⟨g0, g, d, tk0, os⟩ _ _ (by rw [← hi1]; exact (D1.over st1 hs0 S.zf1)) fun q e hq he => ?_)
      replace hq : Heap.ExtBut i1 g0 q := hq
      obtain ⟨oe, hoe, hce⟩ := he
      replace hoe : q.get? e = some oe := hoe
      have hzq : ZR q z TI TO .ellipsis b0 := hq _ _ S.zi1 hz0
      have hez : e ≠ z := fun x => by subst x; rw [hzq] at hoe; cases hoe; simp at hce
      refine wpAny_setField_rec (s := ⟨q, g, d, tk0, os⟩) hzq (by simp) fun q' _ hq' => ?_
      replace hq' : Heap.SameBut z q q' := hq'
      exact hE q' tk0 e (fun c o cz cT c1 c2 c3 x => hq'.extBut _ _ cz (hq _ _ c1 (hs0.extBut _ _ cz x))) ⟨oe, hq'.extBut _ _ hez hoe, hce⟩
  · intro g0 hz0 hs0
    replace hz0 : ZR g0 z TI TO f0 true := hz0
    replace hs0 : Heap.SameBut z hp g0 := hs0
    simp only [Bool.false_eq_true, if_false]
    refine wpAny_bind ?_
    rw [← Array.forIn_toList]
    simp only [List.forIn_cons, List.forIn_nil]
    refine wpAny_bind (wpAny_bind (wpAny_holding ?_))
    show wpAny _ _ (Builtin.SmallTypes.nextOf (.ref i1) >>= _) _ _ ⟨g0, g, d, tk0, os⟩
    rcases Nat.lt_or_eq_of_le hle1 with hlt1 | hq0
    · refine wpAny_bind (D1.item i _ _ _ hlt1 (D1.over st1 hs0 S.zf1) fun x1 p1 tk1 hx1 sn1 hp1 => wpAny_pure ?_)
      replace hp1 : Heap.SameBut i1 g0 p1 := hp1
      refine wpAny_pure ?_
      refine wpAny_bind (wpAny_bind (wpAny_holding ?_))
      show wpAny _ _ (Builtin.SmallTypes.nextOf (.ref i2) >>= _) _ _ ⟨p1, g, d, tk1, os⟩
      rcases Nat.lt_or_eq_of_le hle2 with hlt2 | hq0
      · refine wpAny_bind (D2.item i _ _ _ hlt2 (D2.over (D2.over st2 hs0 S.zf2) hp1 S.sep1_2) fun x2 p2 tk2 hx2 sn2 hp2 => wpAny_pure ?_)
        replace hp2 : Heap.SameBut i2 p1 p2 := hp2
        refine wpAny_pure ?_
        refine wpAny_bind (wpAny_bind (wpAny_holding ?_))
        show wpAny _ _ (Builtin.SmallTypes.nextOf (.ref i3) >>= _) _ _ ⟨p2, g, d, tk2, os⟩
        have hi3 : i = n3 := by omega
        refine wpAny_bind (D3.done ⟨p2, g, d, tk2, os⟩ _ _ (by rw [← hi3]; exact (D3.over (D3.over (D3.over st3 hs0 S.zf3) hp1 S.sep1_3) hp2 S.sep2_3)) fun q e hq he => ?_)
        replace hq : Heap.ExtBut i3 p2 q := hq
        exact hE q tk2 e (fun c o cz cT c1 c2 c3 x => hq _ _ c3 (hp2.extBut _ _ c2 (hp1.extBut _ _ c1 (hs0.extBut _ _ cz x)))) he
      · have hi2 : i = n2 := by omega
        refine wpAny_bind (D2.done ⟨p1, g, d, tk1, os⟩ _ _ (by rw [← hi2]; exact (D2.over (D2.over st2 hs0 S.zf2) hp1 S.sep1_2)) fun q e hq he => ?_)
        replace hq : Heap.ExtBut i2 p1 q := hq
        exact hE q tk1 e (fun c o cz cT c1 c2 c3 x => hq _ _ c2 (hp1.extBut _ _ c1 (hs0.extBut _ _ cz x))) he
    · have hi1 : i = n1 := by omega
      refine wpAny_bind (D1.done ⟨g0, g, d, tk0, os⟩ _ _ (by rw [← hi1]; exact (D1.over st1 hs0 S.zf1)) fun q e hq he => ?_)
      replace hq : Heap.ExtBut i1 g0 q := hq
      exact hE q tk0 e (fun c o cz cT c1 c2 c3 x => hq _ _ c1 (hs0.extBut _ _ cz x)) he
end
end DL

set_option Elab.async false
set_option linter.all false
set_option maxRecDepth 100000
set_option maxHeartbeats 4000000
/-! DLZ2: what iterators inside one another draw, by data; enumerate. -/
namespace DL
open PySem PySem.Spec PyProof.Rows L2
/-! ### sources: a list or a tuple -/
def SqB (b : Bool) (K : PySem.W.Frag) (H : Hp) (a : Addr) (vs : List V) : Prop := match b with
  | true => SqT K H a vs
  | false => SqL K H a vs
def ItB (b : Bool) (h : Heap) (it a : Addr) (i : Nat) : Prop := match b with
  | true => h.IsTupleIter it a i
  | false => h.IsListIter it a i
def SB (b : Bool) (h : Heap) (a : Addr) (xs : Array Value) : Prop := match b with
  | true => h.IsTuple a xs
  | false => h.IsList a xs
theorem drawsB {prog : Program} {w : World} {A : Around} (b : Bool) (hh : A.handled = none) (it a : Addr) (hne : a ≠ it) (items : Array Value) : Draws prog w A it [it, a] items.size (fun i v => items[i]? = some v) (fun i h => ItB b h it a i ∧ SB b h a items) := by
  cases b
  · exact Draws.list hh it a hne items
  · exact Draws.tuple hh it a hne items
theorem ItB.at_ {b : Bool} {h h' : Heap} {it a : Addr} {i : Nat} (x : ItB b h it a i) (k : ∀ o, h.get? it = some o → h'.get? it = some o) : ItB b h' it a i := by
  cases b
  · exact Heap.IsListIter.at x k
  · exact Heap.IsTupleIter.at x k
theorem ItB.obj {b : Bool} {h : Heap} {it a : Addr} {i : Nat} (x : ItB b h it a i) : ∃ o, h.get? it = some o ∧ ∀ v, o.data ≠ .cell v := by
  cases b
  · obtain ⟨o, e, _, d⟩ := x
    exact ⟨o, e, fun v q => by rw [d] at q; cases q⟩
  · obtain ⟨o, e, _, d⟩ := x
    exact ⟨o, e, fun v q => by rw [d] at q; cases q⟩
theorem SqB.read {X : Cx} {pins : List (Addr × Obj)} {σ : L2.St} {H : Hp} {s : Shared} {b : Bool} {a : Addr} {vs : List V} (I : Inv X pins σ H s) (h : SqB b X.K H a vs) : ∃ its : List Value, Vals vs its ∧ SB b s.heap a its.toArray ∧ ∃ o, s.heap.get? a = some o := by
  cases b
  · obtain ⟨its, rv, p, _⟩ := I.list h
    obtain ⟨o, _, e, _⟩ := id p
    exact ⟨its, rv, p.isList, o, e⟩
  · obtain ⟨its, rv, p, _⟩ := I.tuple h
    obtain ⟨o, e, _⟩ := id p
    exact ⟨its, rv, p, o, e⟩
def SrcB (b : Bool) (K : PySem.W.Frag) (a : Addr) (L : List D) (H : Hp) : Prop := ∃ vs, SqB b K H a vs ∧ IsDs K H vs L
/-- the data that an iterator goes through, where what it reads stands -/
def Jd (K : PySem.W.Frag) (Src : Hp → Prop) (L : List D) : It :=
  ⟨fun i H => Src H ∧ i < L.length, fun i H v H' => TpM K H H' ∧ (∀ η, Abs K η H → Abs K η H') ∧ ∃ d, L[i]? = some d ∧ IsD K H' v d, fun i H => Src H ∧ L.length ≤ i⟩
theorem jd_ok {K : PySem.W.Frag} {Src : Hp → Prop} {L : List D} {H0 : Hp} {gd : Sto → Prop} (h : ∀ H η, TpM K H0 H → Abs K η H → gd η → Src H) : JOk K (Jd K Src L) H0 L gd := by
  intro i H η t a g
  have sr := h H η t a g
  refine ⟨fun d hd => ⟨⟨sr, (List.getElem?_eq_some_iff.mp hd).1⟩, fun v H' ⟨t', a', d', e, iv⟩ => ?_⟩, fun hl => ⟨sr, hl⟩⟩
  rw [hd] at e
  cases e
  exact ⟨t', a', iv⟩
/-- a drawn value, told in a heap that may have grown -/
def Nw (X : Cx) (pins : List (Addr × Obj)) (σ : L2.St) (H : Hp) (s : Shared) (h' : Heap) (x : Value) (d : D) : Prop :=
  ∃ H' v, (∀ tk, Inv X pins σ H' { s with heap := h', toks := tk }) ∧ RelV v x ∧ IsD X.K H' v d ∧ TpM X.K H H' ∧ (∀ η, Abs X.K η H → Abs X.K η H') ∧ ∀ b, H b = none → b < s.heap.objs.size → H' b = none
structure Inn (P : Program) (w : World) (K : PySem.W.Frag) (it : Addr) (fp : List Addr) (St : Nat → Heap → Prop) (Src : Hp → Prop) (L : List D) : Prop where
  mem : it ∈ fp
  obj : ∀ i h, St i h → ∀ b ∈ fp, ∃ o, h.get? b = some o ∧ ∀ v, o.data ≠ .cell v
  keep : ∀ i h h', St i h → (∀ b ∈ fp, ∀ o, h.get? b = some o → h'.get? b = some o) → St i h'
  item : ∀ (X : Cx), X.prog = P → X.w = w → X.K = K → ∀ (A : Around), A.handled = none → ∀ (i : Nat) (pins : List (Addr × Obj)) (s : Shared) (σ : L2.St) (H : Hp), Inv X pins σ H s → (∀ b ∈ fp, FpOk X pins H b) → St i s.heap → Src H → ∀ d, L[i]? = some d →
    ∀ (Q : Value → Shared → Prop) (E : Value → Shared → Prop), (∀ x h' tk, St (i + 1) h' → (∀ b o, b ∉ fp → s.heap.get? b = some o → h'.get? b = some o) → s.heap.objs.size ≤ h'.objs.size → Nw X pins σ H s h' x d → Q x { s with heap := h', toks := tk }) →
    wpAny (model P w) A (Builtin.SmallTypes.nextOf (.ref it)) Q E s
  done : ∀ (X : Cx), X.prog = P → X.w = w → X.K = K → ∀ (A : Around), A.handled = none → ∀ (i : Nat) (pins : List (Addr × Obj)) (s : Shared) (σ : L2.St) (H : Hp), Inv X pins σ H s → (∀ b ∈ fp, FpOk X pins H b) → St i s.heap → Src H → L.length ≤ i →
    ∀ (Q : Value → Shared → Prop) (E : Value → Shared → Prop), (∀ h' tk e, (∀ b o, b ∉ fp → s.heap.get? b = some o → h'.get? b = some o) → (∃ o, h'.get? e = some o ∧ o.cls = .type "StopIteration") → E (.ref e) { s with heap := h', toks := tk }) →
    wpAny (model P w) A (Builtin.SmallTypes.nextOf (.ref it)) Q E s
/-! ### a list's, a tuple's iterator -/
theorem inn_seq {P : Program} {w : World} {K : PySem.W.Frag} (b : Bool) (it a : Addr) (L : List D) (hne : a ≠ it) : Inn P w K it [it] (fun i h => ItB b h it a i) (SrcB b K a L) L where
  mem := by simp
  obj := fun i h st c hc => by
    have e : c = it := by simpa using hc
    subst e
    exact st.obj
  keep := fun i h h' st k => st.at_ fun o e => k it (by simp) o e
  item := by
    intro X hP hw hK A hh i pins s σ H I hf st sr d hd Q E hQ
    subst hP hw hK
    obtain ⟨vs, hq, is⟩ := sr
    obtain ⟨its, rv, sb, _⟩ := SqB.read I hq
    obtain ⟨v, hv, iv⟩ := is.get hd
    obtain ⟨u, hu, ru⟩ := rv.get hv
    obtain ⟨f0, f1, f2, f3, f4, f5⟩ := hf it (by simp)
    have hlt : i < its.toArray.size := by
      have := (List.getElem?_eq_some_iff.mp hu).1
      simpa using this
    refine (drawsB b hh it a hne its.toArray).item i s Q E hlt ⟨st, sb⟩ fun x h' tk hx st' same => ?_
    have ex : x = u := by
      have hx' : its[i]? = some x := by simpa using hx
      rw [hu] at hx'
      exact (Option.some.inj hx').symm
    subst ex
    refine hQ x h' tk st'.1 (fun c o hc e => (same.2 c (by simpa using hc)).trans e) (Nat.le_of_eq same.1.symm) ⟨H, v, fun tk => ?_, ru, iv, TpM.refl _ _, fun _ h => h, fun _ h _ => h⟩
    exact I.turned (t' := tk) (fun c o hc e => (same.2 c hc).trans e) f0 f1 f3 f4 f5
  done := by
    intro X hP hw hK A hh i pins s σ H I hf st sr hl Q E hE
    subst hP hw hK
    obtain ⟨vs, hq, is⟩ := sr
    obtain ⟨its, rv, sb, _⟩ := SqB.read I hq
    have hn : its.toArray[i]? = none := by
      simp
      rw [← rv.length, is.length]
      exact hl
    cases b
    · exact wpAny_nextOf_list_end hh st sb hn fun h' e ex he => hE h' s.toks e (fun c o hc x => ex c o (by simpa using hc) x) he
    · exact RZ.nextOf_tuple_end hh st sb hn fun h' e ex he => hE h' s.toks e (fun c o hc x => ex c o (by simpa using hc) x) he
/-! ### enumerate -/
section
variable {prog : Program} {w : World} {A : Around} {E : Value → Shared → Prop} {s : Shared}
theorem enum_over {e it : Addr} {c : Int} {old : Value} {Y : Value → Heap → Prop} {Q : Value → Shared → Prop} (he : IsEnum s.heap e it c old)
    (inner : ∀ (Q' E' : Value → Shared → Prop), (∀ x h' tk, Y x h' → IsEnum h' e it c old → Q' x { s with heap := h', toks := tk }) → wpAny (model prog w) A (Builtin.SmallTypes.nextOf (.ref it)) (fun x => Q' x) E' s)
    (hQ : ∀ x h1 h' tk, Y x h1 → IsEnumOut h' e it (c + 1) x h1.objs.size → h'.get? h1.objs.size = some { cls := .type "tuple", data := .seq #[.int c tk, x] } → (∀ b o, b ≠ e → h1.get? b = some o → h'.get? b = some o) → Q (.ref h1.objs.size) { s with heap := h', toks := tk + 1 }) :
    wpAny (model prog w) A (Builtin.«enumerate.__next__» ⟨[.ref e], []⟩) (fun fin s' => ∃ v, fin = .done (.ret v) ∧ Q v s') E s := by
  obtain ⟨hp, g, d, tk0, os⟩ := s
  show wpAny _ _ (field (.ref e) 2 >>= _) _ _ _
  refine wpAny_bind (wpAny_field he rfl (x := .ref it) rfl ?_)
  refine wpAny_bind (inner _ _ fun x h1 tk hY he1 => ?_)
  replace he1 : IsEnum h1 e it c old := he1
  show wpAny _ _ (field (.ref e) 3 >>= _) _ _ ⟨h1, g, d, tk, os⟩
  refine wpAny_bind (wpAny_field he1 rfl (x := rawInt c) rfl ?_)
  show wpAny _ _ (field (.ref e) 4 >>= _) _ _ ⟨h1, g, d, tk, os⟩
  refine wpAny_bind (wpAny_field he1 rfl (x := .none) rfl ?_)
  show wpAny _ _ (mkInt c >>= _) _ _ ⟨h1, g, d, tk, os⟩
  refine wpAny_bind (wpAny_mkInt ?_)
  show wpAny _ _ (setField (.ref e) 3 (rawInt (c + 1)) >>= _) _ _ ⟨h1, g, d, tk + 1, os⟩
  refine wpAny_bind (wpAny_setField_rec he1 (by simp) fun h2 he2 hs2 => ?_)
  replace hs2 : Heap.SameBut e h1 h2 := hs2
  replace he2 : IsEnum h2 e it (c + 1) old := he2
  show wpAny _ _ (setField (.ref e) 4 .none >>= _) _ _ ⟨h2, g, d, tk + 1, os⟩
  refine wpAny_bind (wpAny_setField_rec he2 (by simp) fun h3 he3 hs3 => ?_)
  replace hs3 : Heap.SameBut e h2 h3 := hs3
  replace he3 : IsEnum h3 e it (c + 1) old := he3
  show wpAny _ _ (newTuple [.int c tk, x] >>= _) _ _ ⟨h3, g, d, tk + 1, os⟩
  refine wpAny_bind (wpAny_newTuple ?_)
  have he4 : IsEnum (h3.push { cls := .type "tuple", data := .seq #[.int c tk, x] }) e it (c + 1) old := Heap.get?_push_of_some _ he3
  have hsz : h3.objs.size = h1.objs.size := by rw [hs3.1, hs2.1]
  have hel : e < h1.objs.size := Heap.lt_size he1
  have ht4 : (h3.push { cls := .type "tuple", data := .seq #[.int c tk, x] }).get? h1.objs.size = some { cls := .type "tuple", data := .seq #[.int c tk, x] } := by rw [← hsz]; exact Heap.get?_push_size _ rfl
  have hk4 : ∀ b o, b ≠ e → h1.get? b = some o → (h3.push { cls := .type "tuple", data := .seq #[.int c tk, x] }).get? b = some o := fun b o hb q => Heap.get?_push_of_some _ (hs3.extBut b o hb (hs2.extBut b o hb q))
  generalize h3.push { cls := .type "tuple", data := .seq #[.int c tk, x] } = h4 at he4 ht4 hk4 ⊢
  show wpAny _ _ (Builtin.SmallTypes.ownedTupleIsFree (.ref e) >>= _) _ _ ⟨h4, g, d, tk + 1, os⟩
  rw [hsz]
  refine wpAny_bind ?_
  unfold Builtin.SmallTypes.ownedTupleIsFree
  refine wpAny_bind (wpAny_field he4 rfl (x := .none) rfl (wpAny_pure ?_))
  simp only [if_true]
  refine wpAny_bind (wpAny_rule ?_)
  refine wpAny_bind (wpAny_field he4 rfl (x := old) rfl ?_)
  refine wpAny_bind (wpAny_setField_rec he4 (by simp) fun h5 he5 hs5 => ?_)
  replace hs5 : Heap.SameBut e h4 h5 := hs5
  replace he5 : IsEnum h5 e it (c + 1) x := he5
  show wpAny _ _ (Builtin.SmallTypes.ownedTupleHandOut (.ref e) (.ref h1.objs.size) >>= _) _ _ ⟨h5, g, d, tk + 1, os⟩
  refine wpAny_bind ?_
  unfold Builtin.SmallTypes.ownedTupleHandOut
  refine wpAny_bind (wpAny_setField_rec he5 (by simp) fun h6 he6 hs6 => ?_)
  replace hs6 : Heap.SameBut e h5 h6 := hs6
  replace he6 : IsEnumOut h6 e it (c + 1) x h1.objs.size := he6
  refine wpAny_setField_rec he6 (by simp) fun h7 he7 hs7 => ?_
  replace hs7 : Heap.SameBut e h6 h7 := hs7
  replace he7 : IsEnumOut h7 e it (c + 1) x h1.objs.size := he7
  refine wpAny_bind (wpAny_letGo (wpAny_pure ⟨_, rfl, hQ x h1 h7 tk hY he7 ?_ ?_⟩))
  · exact hs7.extBut _ _ (Nat.ne_of_gt hel) (hs6.extBut _ _ (Nat.ne_of_gt hel) (hs5.extBut _ _ (Nat.ne_of_gt hel) ht4))
  · exact fun b o hb q => hs7.extBut b o hb (hs6.extBut b o hb (hs5.extBut b o hb (hk4 b o hb q)))
end
theorem enm_get {L : List D} {i : Nat} {d : D} (h : L[i]? = some d) : (enmL L)[i]? = some (.tup [.int (i : Nat), d]) := by
  unfold enmL
  rw [List.getElem?_map, List.getElem?_zipIdx, h]
  simp
theorem enm_len {L : List D} : (enmL L).length = L.length := by unfold enmL; simp
theorem turn_en {P : Program} {w : World} {K : PySem.W.Frag} {elts : List Expr} {kk : Nat} {tpos : Pos} {it : Addr} {fp : List Addr} {St : Nat → Heap → Prop} {Src : Hp → Prop} {L : List D} (N : Inn P w K it fp St Src L) (e : Addr) (hef : e ∉ fp) :
    Turn P w K (.Tuple elts kk tpos) (Jd K Src (enmL L)) (e :: fp) e (fun i h => (∃ old, IsEnum h e it ((i : Nat) : Int) old) ∧ St i h) where
  mem := by simp
  obj := fun i h st b hb => by
    rcases List.mem_cons.mp hb with rfl | hb
    · obtain ⟨⟨old, he⟩, _⟩ := st
      exact ⟨_, he, fun v q => nomatch q⟩
    · exact N.obj i h st.2 b hb
  keep := fun i h h' st k => let ⟨⟨old, he⟩, hs⟩ := st; ⟨⟨old, k e (by simp) _ he⟩, N.keep i h h' hs fun b hb o q => k b (List.mem_cons_of_mem _ hb) o q⟩
  item := by
    intro X hP hw hK hc i pins s σ H E I hf st hg
    obtain ⟨⟨old, he⟩, hst⟩ := st
    obtain ⟨sr, hlt⟩ := hg
    rw [enm_len] at hlt
    have hd : L[i]? = some L[i] := by simp [hlt]
    have hh : X.A.in1.handled = none := I.ok.hd hc
    have hT : s.TypeIs (.ref e) "enumerate" := ⟨_, he, rfl⟩
    have hel : e < s.heap.objs.size := Heap.lt_size he
    unfold pyNext
    refine wpAny_bind (wpAny_attempt (wpAny_callSpecial?_slot (name := Str.ofString "__next__") hT F.slot_enumerate_next
      (wpAny_call_entry F.slot_enumerate_next hT F.entry_enumerate_next (enum_over (Y := fun x h1 => St (i + 1) h1 ∧ (∀ b o, b ∉ fp → s.heap.get? b = some o → h1.get? b = some o) ∧ s.heap.objs.size ≤ h1.objs.size ∧ Nw X pins σ H s h1 x L[i]) he (fun Q' E' hq => ?_) fun x h1 h' tk hY ho hU hk => ?_) (F.args_enumerate_next_1 _))))
    · exact N.item X hP hw hK _ hh i pins s σ H I (fun b hb => hf b (List.mem_cons_of_mem _ hb)) hst sr _ hd _ _ fun x h' tk k1 k2 k3 k4 => hq x h' tk ⟨k1, k2, k3, k4⟩ (k2 e _ hef he)
    · obtain ⟨st1, k1, k2, H1, v, I1, rv, iv, t1, a1, n1⟩ := hY
      refine wpAny_pure ⟨_, rfl, wpAny_letOwnedTupleGo_enum (s := { s with heap := h', toks := tk + 1 }) ho fun h2 he2 sb => ?_⟩
      have e1 : e < h1.objs.size := Nat.lt_of_lt_of_le hel k2
      have hU2 : h2.get? h1.objs.size = some { cls := .type "tuple", data := .seq #[.int i tk, x] } := (sb.2 _ (Nat.ne_of_gt e1)).trans hU
      have hn : H1 h1.objs.size = none := (I1 tk).hok.fresh (Nat.le_refl _)
      have t2 : TpM X.K H1 (upd H1 h1.objs.size (.tup [.int (i : Nat), v])) := TpM.new hn
      have new : ObjOk X.prog X.w (upd H1 h1.objs.size (.tup [.int (i : Nat), v])) h2 h1.objs.size (.tup [.int (i : Nat), v]) :=
        ⟨by show 2 ≤ sizeLine; decide, [.int i tk, x], .cons ⟨_, rfl⟩ (.cons rv .nil), ⟨_, hU2, rfl, _, rfl⟩⟩
      have kk2 : ∀ b o, b ∉ [e] → h1.get? b = some o → h2.get? b = some o := fun b o hb q => by
        have hbe : b ≠ e := by simpa using hb
        exact (sb.2 b hbe).trans (hk b o hbe q)
      have fe : FpOk X pins H1 e := ⟨n1 e (hf e (by simp)).1 hel, (hf e (by simp)).2⟩
      have I2 := (I1 tk).turnedNew (t' := tk + 1) (ch := [e]) (T := h1.objs.size) kk2 (fun b hb => by
        have hbe : b = e := by simpa using hb
        subst hbe
        exact fe) (Nat.le_refl _) new
      subst hK
      refine ⟨.ref h1.objs.size, _, I2, rfl, ⟨t1.trans t2, fun η h => (a1 η h).new ((a1 η h).free hn) t2, _, enm_get hd, .tup (SqT.of upd_same) (.cons (.int _) (.cons (iv.mono t2) .nil))⟩, ⟨⟨x, ?_⟩, ?_⟩, fun b hb => ?_⟩
      · have e3 : ((i + 1 : Nat) : Int) = (i : Int) + 1 := by omega
        rw [e3]; exact he2
      · exact N.keep (i + 1) h1 h2 st1 fun b hb o q => kk2 b o (by
          have : b ≠ e := fun z => hef (z ▸ hb)
          simpa using this) q
      · have hb2 : H1 b = none ∧ b < h1.objs.size := by
          rcases List.mem_cons.mp hb with rfl | hb'
          · exact ⟨n1 _ (hf _ (by simp)).1 hel, e1⟩
          · obtain ⟨o, ho', _⟩ := N.obj i _ hst b hb'
            exact ⟨n1 b (hf b hb).1 (Heap.lt_size ho'), Nat.lt_of_lt_of_le (Heap.lt_size ho') k2⟩
        rw [upd_ne (Nat.ne_of_lt hb2.2)]
        exact hb2.1
  done := by
    intro X hP hw hK hc i pins s σ H E I hf st hg
    obtain ⟨⟨old, he⟩, hst⟩ := st
    obtain ⟨sr, hle⟩ := hg
    rw [enm_len] at hle
    have hh : X.A.in1.handled = none := I.ok.hd hc
    have hT : s.TypeIs (.ref e) "enumerate" := ⟨_, he, rfl⟩
    unfold pyNext
    refine wpAny_bind (wpAny_attempt (wpAny_callSpecial?_slot (name := Str.ofString "__next__") hT F.slot_enumerate_next
      (wpAny_call_entry F.slot_enumerate_next hT F.entry_enumerate_next ?_ (F.args_enumerate_next_1 _))))
    show wpAny _ _ (field (.ref e) 2 >>= _) _ _ _
    refine wpAny_bind (wpAny_field he rfl (x := .ref it) rfl ?_)
    refine wpAny_bind (N.done X hP hw hK _ hh i pins s σ H I (fun b hb => hf b (List.mem_cons_of_mem _ hb)) hst sr hle _ _ fun h' tk x hk hx => ?_)
    obtain ⟨o, ho, hcl⟩ := hx
    refine wpAny_bind (wpAny_isInstance (T := "StopIteration") (b := true) ⟨o, ho, hcl⟩ isSubtype_stop ?_)
    exact wpAny_pure ⟨rfl, I.turnedL (t' := tk) (ch := e :: fp) (fun b o hb q => hk b o (fun z => hb (List.mem_cons_of_mem _ z)) q) hf⟩
  self := fun A i s Q E st h => let ⟨⟨_, he⟩, _⟩ := st; wpAny_pyIter_enum he h
end DL

set_option Elab.async false
set_option linter.all false
set_option maxRecDepth 100000
set_option maxHeartbeats 4000000
/-! DLZ3 (printed by gz3.py): zip by data. -/
namespace DL
open PySem PySem.Spec PyProof.Rows L2
section
variable {prog : Program} {w : World} {A : Around} {E : Value → Shared → Prop} {s : Shared}
theorem letgo_zip {elts : List Expr} {x1} {pos : Pos} {z TI TO T : Addr} {f0 : Value} {b0 : Bool} {Q : Unit → Shared → Prop} (hz : ZR s.heap z TI TO f0 b0) (hf : F0 f0)
    (hQ : ∀ h' f1, ZR h' z TI TO f1 b0 → F0 f1 → Heap.SameBut z s.heap h' → Q () { s with heap := h' }) : wpAny (model prog w) A (letOwnedTupleGo (.Tuple elts x1 pos) (.ref z) (.ref T)) Q E s := by
  unfold letOwnedTupleGo
  refine wpAny_bind (wpAny_load hz ?_)
  show wpAny _ _ (if (["enumerate", "zip", "dict_itemiterator", "dict_reverseitemiterator", "odict_iterator", "itertools.zip_longest", "itertools.pairwise"].contains "zip" &&
      (#[f0, .bool b0, .bool false, .ref TI, .ref TO] : Array Value)[0]? == some (rawInt T)) = true then _ else _) Q E s
  by_cases q : (["enumerate", "zip", "dict_itemiterator", "dict_reverseitemiterator", "odict_iterator", "itertools.zip_longest", "itertools.pairwise"].contains "zip" &&
      (#[f0, .bool b0, .bool false, .ref TI, .ref TO] : Array Value)[0]? == some (rawInt T)) = true
  · rw [if_pos q]
    refine wpAny_bind (wpAny_rule ?_)
    show wpAny _ _ (setField (.ref z) 0 .none) Q E s
    exact wpAny_setField_rec hz (by simp) fun h' hz' hs' => hQ h' .none hz' (.inl rfl) hs'
  · rw [if_neg q]
    exact wpAny_pure (hQ s.heap f0 hz hf (Heap.SameBut.refl _ _))
theorem iter_zip {z TI TO : Addr} {f0 : Value} {b0 : Bool} {Q : Value → Shared → Prop} (hz : ZR s.heap z TI TO f0 b0) (h : Q (.ref z) s) : wpAny (model prog w) A (pyIter (.ref z)) Q E s := by
  have hT : s.TypeIs (.ref z) "zip" := ⟨_, hz, rfl⟩
  refine wpAny_pyIter_slot hT F.slot_zip_iter (wpAny_call_entry F.slot_zip_iter hT F.entry_zip_iter ?_ (F.args_zip_iter_1 _))
  show wpAny _ _ (ret (.ref z)) _ _ s
  exact wpAny_pure ⟨_, rfl, "zip", _, hT, F.slot_zip_next.lookup, h⟩
end
def itO (b : Bool) (p : Addr) : Obj := match b with
  | true => { cls := .type "tuple_iterator", data := .fields #[.ref p, .int 0 0] }
  | false => { cls := .type "list_iterator", data := .fields #[.ref p, .int 0 0] }
theorem begB (b : Bool) (p : Addr) (its : Array Value) : Begins (.ref p) (itO b p) (fun h => SB b h p its) := by
  cases b
  · exact begins_list p its
  · exact begins_tuple p its
theorem ItB.of {b : Bool} {h : Heap} {it p : Addr} (e : h.get? it = some (itO b p)) : ItB b h it p 0 := by
  cases b
  · exact ⟨_, e, rfl, rfl⟩
  · exact ⟨_, e, rfl, rfl⟩
/-- a sequence, walked later: where it stands as long as the guard holds -/
theorem src_of {K : PySem.W.Frag} {H : Hp} {η : Sto} {d : D} {v : V} {L : List D} (ab : Abs K η H) (i : IsD K H v d) (g : seqD d η L) :
    ∃ p vs b, v = .ref p ∧ SqB b K H p vs ∧ IsDs K H vs L ∧ ∀ H2 η2, TpM K H H2 → Abs K η2 H2 → seqD d η2 L → SrcB b K p L H2 := by
  cases i <;> simp only [seqD] at g
  case tup a vs ds hs ht => subst g; exact ⟨a, vs, true, rfl, hs, ht, fun H2 η2 t _ _ => ⟨vs, t.1 _ _ hs, ht.mono t⟩⟩
  case rl a vs ds hs ht => subst g; exact ⟨a, vs, false, rfl, hs.sq, ht, fun H2 η2 t _ _ => ⟨vs, (t.2 _ _ hs).sq, ht.mono t⟩⟩
  case ref a =>
    obtain ⟨vs, e1, ht⟩ := lst_of ab g
    refine ⟨a, vs, false, rfl, SqL.of e1, ht, fun H2 η2 t a2 g2 => ?_⟩
    simp only [seqD] at g2
    obtain ⟨ws, e2, h2⟩ := lst_of a2 g2
    exact ⟨ws, SqL.of e2, h2⟩
/-! ### zip of 2 -/
def ZSt2 (z TI TO i1 i2 p1 p2 : Addr) (b1 b2 : Bool) (i : Nat) (h : Heap) : Prop := (∃ f0 b0, ZR h z TI TO f0 b0 ∧ F0 f0) ∧ IsTupOf2 h TI (.ref i1) (.ref i2) ∧ (∃ a1 a2, IsTupOf2 h TO a1 a2) ∧ ItB b1 h i1 p1 i ∧ ItB b2 h i2 p2 i
def ZSrc2 (K : PySem.W.Frag) (p1 p2 : Addr) (b1 b2 : Bool) (M1 M2 : List D) (H : Hp) : Prop := SrcB b1 K p1 M1 H ∧ SrcB b2 K p2 M2 H
theorem zip2_get {M1 M2 : List D} {i : Nat} {d : D} (h : (zipL [M1, M2])[i]? = some d) : ∃ d1 d2, M1[i]? = some d1 ∧ M2[i]? = some d2 ∧ d = .tup [d1, d2] := by
  unfold zipL at h
  rw [List.getElem?_map] at h
  cases q : (M1.zip M2)[i]? with
  | none => rw [q] at h; cases h
  | some y =>
    rw [q] at h
    cases h
    rw [List.getElem?_zip_eq_some] at q
    exact ⟨y.1, y.2, q.1, q.2, rfl⟩
theorem zip2_len {M1 M2 : List D} : (zipL [M1, M2]).length = min M1.length M2.length := by unfold zipL; simp
theorem zbody2_item {P : Program} {w : World} {K : PySem.W.Frag} {z TI TO i1 i2 p1 p2 : Addr} {b1 b2 : Bool} {M1 M2 : List D} (S : ZipSep2 z TI TO i1 i2 [i1, p1] [i2, p2]) (ne1 : p1 ≠ i1) (ne2 : p2 ≠ i2) (X : Cx) (hP : X.prog = P) (hw : X.w = w) (hK : X.K = K) (A : Around) (hh : A.handled = none) (i : Nat) (pins : List (Addr × Obj)) (s : Shared) (σ : L2.St) (H : Hp) (I : Inv X pins σ H s) (hf : ∀ b ∈ ([z, TI, TO, i1, i2] : List Addr), FpOk X pins H b) (st : ZSt2 z TI TO i1 i2 p1 p2 b1 b2 i s.heap) (sr : ZSrc2 K p1 p2 b1 b2 M1 M2 H) (d : D) (hd : (zipL [M1, M2])[i]? = some d)
    (Q : Value → Shared → Prop) (E : Value → Shared → Prop) (hQ : ∀ x h' tk, ZSt2 z TI TO i1 i2 p1 p2 b1 b2 (i + 1) h' → (∀ b o, b ∉ ([z, TI, TO, i1, i2] : List Addr) → s.heap.get? b = some o → h'.get? b = some o) → s.heap.objs.size ≤ h'.objs.size → Nw X pins σ H s h' x d → Q x { s with heap := h', toks := tk }) :
    wpAny (model P w) A (Builtin.«zip.__next__» ⟨[.ref z], []⟩) (fun fin s' => ∃ v, fin = .done (.ret v) ∧ Q v s') E s := by
  subst hP hw hK
  obtain ⟨⟨f0, b0, hz, hf0⟩, hTI, ⟨a1, a2, hTO⟩, t1, t2⟩ := st
  obtain ⟨⟨vs1, hq1, is1⟩, ⟨vs2, hq2, is2⟩⟩ := sr
  obtain ⟨d1, d2, e1, e2, rfl⟩ := zip2_get hd
  obtain ⟨its1, rv1, sb1, _⟩ := SqB.read I hq1
  obtain ⟨v1, hv1, iv1⟩ := is1.get e1
  obtain ⟨u1, hu1, ru1⟩ := rv1.get hv1
  have lt1 : i < its1.toArray.size := by have := (List.getElem?_eq_some_iff.mp hu1).1; simpa using this
  obtain ⟨its2, rv2, sb2, _⟩ := SqB.read I hq2
  obtain ⟨v2, hv2, iv2⟩ := is2.get e2
  obtain ⟨u2, hu2, ru2⟩ := rv2.get hv2
  have lt2 : i < its2.toArray.size := by have := (List.getElem?_eq_some_iff.mp hu2).1; simpa using this
  refine zx2_item S (drawsB b1 hh i1 p1 ne1 its1.toArray) (drawsB b2 hh i2 p2 ne2 its2.toArray) hz hf0 hTI hTO ⟨t1, sb1⟩ ⟨t2, sb2⟩ lt1 lt2 fun x1 x2 h' tk f1 bb y1 y2 hx1 hx2 z1 hf1 hTO1 n1' n2' hT n1 hk => ?_
  have ex1 : x1 = u1 := by
    have q : its1[i]? = some x1 := by simpa using hx1
    rw [hu1] at q
    exact (Option.some.inj q).symm
  subst ex1
  have ex2 : x2 = u2 := by
    have q : its2[i]? = some x2 := by simpa using hx2
    rw [hu2] at q
    exact (Option.some.inj q).symm
  subst ex2
  have kk : ∀ b o, b ∉ ([z, TI, TO, i1, i2] : List Addr) → s.heap.get? b = some o → h'.get? b = some o := fun b o hb e => hk b o (fun q => hb (by simp [q])) (fun q => hb (by simp [q])) (fun q => hb (by simp [q])) (fun q => hb (by simp [q])) e
  have hn : H s.heap.objs.size = none := I.hok.fresh (Nat.le_refl _)
  have t : TpM X.K H (upd H s.heap.objs.size (.tup [v1, v2])) := TpM.new hn
  have new : ObjOk X.prog X.w (upd H s.heap.objs.size (.tup [v1, v2])) h' s.heap.objs.size (.tup [v1, v2]) := ⟨by show 2 ≤ sizeLine; decide, [x1, x2], (.cons ru1 (.cons ru2 .nil)), ⟨_, hT, rfl, _, rfl⟩⟩
  refine hQ _ h' tk ⟨⟨f1, bb, z1, hf1⟩, hk TI _ S.TIz S.TITO S.TIi1 S.TIi2 hTI, ⟨_, _,  hTO1⟩, n1'.1, n2'.1⟩ kk (by rw [n1]; exact Nat.le_succ _) ⟨_, .ref s.heap.objs.size, fun tk' => I.turnedNew (t' := tk') (ch := [z, TI, TO, i1, i2]) kk hf (Nat.le_refl _) new, rfl, .tup (SqT.of upd_same) (.cons (iv1.mono t) (.cons (iv2.mono t) .nil)), t, fun η h => h.new (h.free hn) t, fun b hb hl => ?_⟩
  rw [upd_ne (Nat.ne_of_lt hl)]
  exact hb
theorem zbody2_done {P : Program} {w : World} {K : PySem.W.Frag} {z TI TO i1 i2 p1 p2 : Addr} {b1 b2 : Bool} {M1 M2 : List D} (S : ZipSep2 z TI TO i1 i2 [i1, p1] [i2, p2]) (ne1 : p1 ≠ i1) (ne2 : p2 ≠ i2) (X : Cx) (hP : X.prog = P) (hw : X.w = w) (hK : X.K = K) (A : Around) (hh : A.handled = none) (i : Nat) (pins : List (Addr × Obj)) (s : Shared) (σ : L2.St) (H : Hp) (I : Inv X pins σ H s) (st : ZSt2 z TI TO i1 i2 p1 p2 b1 b2 i s.heap) (sr : ZSrc2 K p1 p2 b1 b2 M1 M2 H) (hle : i ≤ (zipL [M1, M2]).length) (hl : (zipL [M1, M2]).length ≤ i)
    (Q : Fin → Shared → Prop) (E : Value → Shared → Prop) (hE : ∀ h' tk e, (∀ b o, b ∉ ([z, TI, TO, i1, i2] : List Addr) → s.heap.get? b = some o → h'.get? b = some o) → (∃ o, h'.get? e = some o ∧ o.cls = .type "StopIteration") → E (.ref e) { s with heap := h', toks := tk }) :
    wpAny (model P w) A (Builtin.«zip.__next__» ⟨[.ref z], []⟩) Q E s := by
  subst hP hw hK
  obtain ⟨⟨f0, b0, hz, hf0⟩, hTI, ⟨a1, a2, hTO⟩, t1, t2⟩ := st
  obtain ⟨⟨vs1, hq1, is1⟩, ⟨vs2, hq2, is2⟩⟩ := sr
  rw [zip2_len] at hle hl
  obtain ⟨its1, rv1, sb1, _⟩ := SqB.read I hq1
  have z1 : its1.toArray.size = M1.length := by rw [List.size_toArray, ← rv1.length, is1.length]
  obtain ⟨its2, rv2, sb2, _⟩ := SqB.read I hq2
  have z2 : its2.toArray.size = M2.length := by rw [List.size_toArray, ← rv2.length, is2.length]
  exact zx2_end S (drawsB b1 hh i1 p1 ne1 its1.toArray) (drawsB b2 hh i2 p2 ne2 its2.toArray) hz hf0 hTI hTO ⟨t1, sb1⟩ ⟨t2, sb2⟩ (by omega) (by omega) (by omega) fun h' tk e hk he => hE h' tk e (fun b o hb q => hk b o (fun x => hb (by simp [x])) (fun x => hb (by simp [x])) (fun x => hb (by simp [x])) (fun x => hb (by simp [x])) q) he
theorem inn_zip2 {P : Program} {w : World} {K : PySem.W.Frag} {z TI TO i1 i2 p1 p2 : Addr} {b1 b2 : Bool} {M1 M2 : List D} (S : ZipSep2 z TI TO i1 i2 [i1, p1] [i2, p2]) (ne1 : p1 ≠ i1) (ne2 : p2 ≠ i2) : Inn P w K z [z, TI, TO, i1, i2] (fun i h => ZSt2 z TI TO i1 i2 p1 p2 b1 b2 i h ∧ i ≤ (zipL [M1, M2]).length) (ZSrc2 K p1 p2 b1 b2 M1 M2) (zipL [M1, M2]) where
  mem := by simp
  obj := fun i h ⟨st, _⟩ c hc => by
    obtain ⟨⟨f0, b0, hz, _⟩, hTI, ⟨a1, a2, hTO⟩, t1, t2⟩ := st
    have e : c = z ∨ c = TI ∨ c = TO ∨ c = i1 ∨ c = i2 := by simpa using hc
    rcases e with q | q | q | q | q
    · rw [q]; exact ⟨_, hz, fun v q => nomatch q⟩
    · rw [q]; exact ⟨_, hTI, fun v q => nomatch q⟩
    · rw [q]; exact ⟨_, hTO, fun v q => nomatch q⟩
    · rw [q]; exact t1.obj
    · rw [q]; exact t2.obj
  keep := fun i h h' ⟨st, hi⟩ k => by
    obtain ⟨⟨f0, b0, hz, hf0⟩, hTI, ⟨a1, a2, hTO⟩, t1, t2⟩ := st
    exact ⟨⟨⟨f0, b0, k z (by simp) _ hz, hf0⟩, k TI (by simp) _ hTI, ⟨a1, a2, k TO (by simp) _ hTO⟩, t1.at_ fun o q => k i1 (by simp) o q, t2.at_ fun o q => k i2 (by simp) o q⟩, hi⟩
  item := by
    intro X hP hw hK A hh i pins s σ H I hf st sr d hd Q E hQ
    obtain ⟨st, hi⟩ := st
    obtain ⟨f0, b0, hz, _⟩ := st.1
    have hT : s.TypeIs (.ref z) "zip" := ⟨_, hz, rfl⟩
    have hlt := (List.getElem?_eq_some_iff.mp hd).1
    unfold Builtin.SmallTypes.nextOf
    refine wpAny_bind (wpAny_callSpecial?_slot (name := Str.ofString "__next__") hT F.slot_zip_next (wpAny_call_entry F.slot_zip_next hT F.entry_zip_next ?_ (F.args_zip_next_1 _)))
    exact zbody2_item S ne1 ne2 X hP hw hK A.in1 hh i pins s σ H I hf st sr d hd _ _ fun x h' tk k1 k2 k3 k4 => wpAny_pure (hQ x h' tk ⟨k1, hlt⟩ k2 k3 k4)
  done := by
    intro X hP hw hK A hh i pins s σ H I hf st sr hl Q E hE
    obtain ⟨st, hi⟩ := st
    obtain ⟨f0, b0, hz, _⟩ := st.1
    have hT : s.TypeIs (.ref z) "zip" := ⟨_, hz, rfl⟩
    unfold Builtin.SmallTypes.nextOf
    refine wpAny_bind (wpAny_callSpecial?_slot (name := Str.ofString "__next__") hT F.slot_zip_next (wpAny_call_entry F.slot_zip_next hT F.entry_zip_next ?_ (F.args_zip_next_1 _)))
    exact zbody2_done S ne1 ne2 X hP hw hK A.in1 hh i pins s σ H I st sr hi hl _ _ fun h' tk e k1 k2 => hE h' tk e k1 k2
theorem turn_z2 {P : Program} {w : World} {K : PySem.W.Frag} {z TI TO i1 i2 p1 p2 : Addr} {b1 b2 : Bool} {M1 M2 : List D} {elts : List Expr} {kk : Nat} {tpos : Pos} (S : ZipSep2 z TI TO i1 i2 [i1, p1] [i2, p2]) (ne1 : p1 ≠ i1) (ne2 : p2 ≠ i2) : Turn P w K (.Tuple elts kk tpos) (Jd K (ZSrc2 K p1 p2 b1 b2 M1 M2) (zipL [M1, M2])) [z, TI, TO, i1, i2] z (fun i h => ZSt2 z TI TO i1 i2 p1 p2 b1 b2 i h ∧ i ≤ (zipL [M1, M2]).length) where
  mem := by simp
  obj := fun i h ⟨st, _⟩ c hc => by
    obtain ⟨⟨f0, b0, hz, _⟩, hTI, ⟨a1, a2, hTO⟩, t1, t2⟩ := st
    have e : c = z ∨ c = TI ∨ c = TO ∨ c = i1 ∨ c = i2 := by simpa using hc
    rcases e with q | q | q | q | q
    · rw [q]; exact ⟨_, hz, fun v q => nomatch q⟩
    · rw [q]; exact ⟨_, hTI, fun v q => nomatch q⟩
    · rw [q]; exact ⟨_, hTO, fun v q => nomatch q⟩
    · rw [q]; exact t1.obj
    · rw [q]; exact t2.obj
  keep := fun i h h' ⟨st, hi⟩ k => by
    obtain ⟨⟨f0, b0, hz, hf0⟩, hTI, ⟨a1, a2, hTO⟩, t1, t2⟩ := st
    exact ⟨⟨⟨f0, b0, k z (by simp) _ hz, hf0⟩, k TI (by simp) _ hTI, ⟨a1, a2, k TO (by simp) _ hTO⟩, t1.at_ fun o q => k i1 (by simp) o q, t2.at_ fun o q => k i2 (by simp) o q⟩, hi⟩
  item := by
    intro X hP hw hK hc i pins s σ H E I hf st hg
    obtain ⟨st, hi⟩ := st
    obtain ⟨sr, hlt⟩ := hg
    obtain ⟨f0, b0, hz, _⟩ := id st.1
    have hT : s.TypeIs (.ref z) "zip" := ⟨_, hz, rfl⟩
    have hd : (zipL [M1, M2])[i]? = some (zipL [M1, M2])[i] := by simp [hlt]
    unfold pyNext
    refine wpAny_bind (wpAny_attempt (wpAny_callSpecial?_slot (name := Str.ofString "__next__") hT F.slot_zip_next (wpAny_call_entry F.slot_zip_next hT F.entry_zip_next ?_ (F.args_zip_next_1 _))))
    refine zbody2_item S ne1 ne2 X hP hw hK X.A.in1 (I.ok.hd hc) i pins s σ H I hf st sr _ hd _ _ fun x h' tk k1 k2 k3 k4 => wpAny_pure ⟨_, rfl, ?_⟩
    obtain ⟨H1, v, I1, rv, iv, tN, aN, nN⟩ := k4
    obtain ⟨⟨f1, b1', z1, hf1⟩, hTI, ⟨a1, a2, hTO⟩, t1, t2⟩ := k1
    have hx : ∃ T : Addr, x = .ref T := by
      obtain ⟨d1, d2, _, _, q⟩ := zip2_get hd
      rw [q] at iv
      cases iv with
      | tup _ _ => cases rv; exact ⟨_, rfl⟩
    obtain ⟨T, rfl⟩ := hx
    refine letgo_zip (s := { s with heap := h', toks := tk }) z1 hf1 fun h2 f2 z2 hf2 sb => ?_
    have kk : ∀ b o, b ∉ [z] → h'.get? b = some o → h2.get? b = some o := fun b o hb q => (sb.2 b (by simpa using hb)).trans q
    have sz : ∀ b ∈ ([z, TI, TO, i1, i2] : List Addr), H1 b = none ∧ FpOk X pins H1 b := fun b hb => by
      have lt : b < s.heap.objs.size := by
        obtain ⟨o, e, _⟩ := (inn_zip2 (P := P) (w := w) (K := K) (M1 := M1) (M2 := M2) S ne1 ne2).obj i s.heap ⟨st, hi⟩ b hb
        exact Heap.lt_size e
      have q := nN b (hf b hb).1 lt
      exact ⟨q, q, (hf b hb).2⟩
    have I2 := (I1 tk).turnedL (t' := tk) (ch := [z]) kk fun b hb => (sz b (by rw [show b = z by simpa using hb]; simp)).2
    subst hK
    refine ⟨v, H1, I2, rv, ⟨tN, aN, _, hd, iv⟩, ⟨⟨⟨f2, b1', z2, hf2⟩, (sb.2 _ S.TIz).trans hTI, ⟨a1, a2, (sb.2 _ S.TOz).trans hTO⟩, t1.at_ fun o q => (sb.2 _ (Ne.symm S.zi1)).trans q, t2.at_ fun o q => (sb.2 _ (Ne.symm S.zi2)).trans q⟩, hlt⟩, fun b hb => (sz b hb).1⟩
  done := by
    intro X hP hw hK hc i pins s σ H E I hf st hg
    obtain ⟨st, hi⟩ := st
    obtain ⟨sr, hle⟩ := hg
    obtain ⟨f0, b0, hz, _⟩ := id st.1
    have hT : s.TypeIs (.ref z) "zip" := ⟨_, hz, rfl⟩
    unfold pyNext
    refine wpAny_bind (wpAny_attempt (wpAny_callSpecial?_slot (name := Str.ofString "__next__") hT F.slot_zip_next (wpAny_call_entry F.slot_zip_next hT F.entry_zip_next ?_ (F.args_zip_next_1 _))))
    refine zbody2_done S ne1 ne2 X hP hw hK X.A.in1 (I.ok.hd hc) i pins s σ H I st sr hi hle _ _ fun h' tk e k1 k2 => ?_
    obtain ⟨o, ho, hcl⟩ := k2
    refine wpAny_bind (wpAny_isInstance (T := "StopIteration") (b := true) ⟨o, ho, hcl⟩ isSubtype_stop ?_)
    exact wpAny_pure ⟨rfl, I.turnedL (t' := tk) (ch := [z, TI, TO, i1, i2]) k1 hf⟩
  self := fun A i s Q E st h => by
    obtain ⟨⟨⟨f0, b0, hz, _⟩, _⟩, _⟩ := st
    exact iter_zip hz h
section
variable {X : Cx} {tg a b c : Expr} {ta tb tc : DE} {pos : Pos}
/-- the zip is made -/
theorem mk_zip2 {y : Str} {np : Pos} (hc : X.calm = true) (hy : y = Str.ofString "zip") (gy : Gl X y) (my : X.mg y = none) (ha : PE X a (upE X.K ta)) (hb : PE X b (upE X.K tb)) (ma : MoE ta) (mb : MoE tb) (hs : nst a = true) (hs2 : nst b = true) {pins : List (Addr × Obj)} {s : Shared} {σ : L2.St} {H : Hp} {δ : DSt} {η : Sto} {R : List D → (Sto → Prop) → Sto → Prop} {Q : Value → Shared → Prop} (I : Inv X pins σ H s) (sl : Sl X.K H σ δ) (ab : Abs X.K η H) (h : ta δ η fun v η1 => tb δ η1 fun w η2 => zipD [v, w] η2 R)
    (hQ : ∀ z TI TO i1 i2 p1 p2 (b1 : Bool) (b2 : Bool) M1 M2 gd η' H' s', ZipSep2 z TI TO i1 i2 [i1, p1] [i2, p2] → p1 ≠ i1 → p2 ≠ i2 → Inv X pins σ H' s' → (∀ b ∈ ([z, TI, TO, i1, i2] : List Addr), FpOk X pins H' b) → TpM X.K H H' → Abs X.K η' H' → R (zipL [M1, M2]) gd η' →
      (∀ H2 η2, TpM X.K H' H2 → Abs X.K η2 H2 → gd η2 → ZSrc2 X.K p1 p2 b1 b2 M1 M2 H2) → ZSt2 z TI TO i1 i2 p1 p2 b1 b2 0 s'.heap → ZR s'.heap z TI TO .none false → Q (.ref z) s') :
    wpAny (model X.prog X.w) X.A (eval (.Call (.Name y np) [a, b] [] pos) X.env) Q X.xe s := by
  have hy' : y = ("zip" : Str) := hy
  subst hy'
  have key : (tCons (upE X.K ta) (tCons (upE X.K tb) tNil)) σ H fun us H1 => ∃ v w η1, IsDs X.K H1 us [v, w] ∧ Abs X.K η1 H1 ∧ TpM X.K H H1 ∧ zipD [v, w] η1 R := by
    exact upE.seq ma sl ab h fun x η1 u H1 h t a i sl => upE.seq mb sl a h fun y η2 u2 H2 h t' a' j sl' => ⟨x, y, η2, .cons (i.mono t') (.cons j .nil), a', t.trans t', h⟩
  refine Call_ (ld_blt I gy my PyProof.Rows.boot_zip (PyProof.Rows.callWith_type1 (thn ((pa_cons ha (pa_cons hb pa_nil (star_no hs2)) (star_no hs)).run pos pins s σ H _ I key) fun us s1 ⟨vs, H1, I1, r1, q1⟩ => ?_) (star_no hs) (plain_of (by simp [hs, hs2]))))
  obtain ⟨v, w, η1, is, a1, t1, q⟩ := q1
  simp only [zipD] at q
  obtain ⟨M1, M2, g1, g2, q⟩ := q
  cases is with
  | cons j1 is =>
  cases r1 with
  | cons r1' r1 =>
  cases is with
  | cons j2 is =>
  cases r1 with
  | cons r2' r1 =>
  cases is
  cases r1
  obtain ⟨p1, w1, b1, rfl, hq1, hi1, hk1⟩ := src_of a1 j1 g1
  cases r1'
  obtain ⟨its1, rv1, sb1, o1, ho1⟩ := SqB.read I1 hq1
  have l1 : p1 < s1.heap.objs.size := Heap.lt_size ho1
  obtain ⟨p2, w2, b2, rfl, hq2, hi2, hk2⟩ := src_of a1 j2 g2
  cases r2'
  obtain ⟨its2, rv2, sb2, o2, ho2⟩ := SqB.read I1 hq2
  have l2 : p2 < s1.heap.objs.size := Heap.lt_size ho2
  refine zip_begins2 (begB b1 p1 its1.toArray) (begB b2 p2 its2.toArray) sb1 sb2 fun h' hz hTI hTO c1 c2 hsz hk => ?_
  have I2 : Inv X pins σ H1 { s1 with heap := h' } := I1.kept (t' := s1.toks) hk
  refine hQ _ _ _ _ _ p1 p2 b1 b2 M1 M2 _ η1 H1 _ (zip_sep2 (fun b hb => by rw [show b = p1 by simpa using hb]; exact l1) (fun b hb => by rw [show b = p2 by simpa using hb]; exact l2)) (Nat.ne_of_lt l1) (Nat.ne_of_lt (Nat.lt_add_right _ l2)) I2 (fun b hb => ?_) t1 a1 q (fun H2 η2 t a g => ⟨hk1 H2 η2 t a g.1, hk2 H2 η2 t a g.2⟩) ⟨⟨_, _, hz, .inl rfl⟩, hTI, ⟨_, _, hTO⟩, ItB.of c1, ItB.of c2⟩ hz
  have hle : s1.heap.objs.size ≤ b := by
    simp only [List.mem_cons, List.not_mem_nil, or_false] at hb
    rcases hb with q | q | q | q | q <;> rw [q] <;> first | exact Nat.le_refl _ | exact Nat.le_add_right _ _
  exact I1.fpOk hle (I1.hok.fresh hle)
end
/-! ### zip of 3 -/
def ZSt3 (z TI TO i1 i2 i3 p1 p2 p3 : Addr) (b1 b2 b3 : Bool) (i : Nat) (h : Heap) : Prop := (∃ f0 b0, ZR h z TI TO f0 b0 ∧ F0 f0) ∧ IsTupOf3 h TI (.ref i1) (.ref i2) (.ref i3) ∧ (∃ a1 a2 a3, IsTupOf3 h TO a1 a2 a3) ∧ ItB b1 h i1 p1 i ∧ ItB b2 h i2 p2 i ∧ ItB b3 h i3 p3 i
def ZSrc3 (K : PySem.W.Frag) (p1 p2 p3 : Addr) (b1 b2 b3 : Bool) (M1 M2 M3 : List D) (H : Hp) : Prop := SrcB b1 K p1 M1 H ∧ SrcB b2 K p2 M2 H ∧ SrcB b3 K p3 M3 H
theorem zip3_get {M1 M2 M3 : List D} {i : Nat} {d : D} (h : (zipL [M1, M2, M3])[i]? = some d) : ∃ d1 d2 d3, M1[i]? = some d1 ∧ M2[i]? = some d2 ∧ M3[i]? = some d3 ∧ d = .tup [d1, d2, d3] := by
  unfold zipL at h
  rw [List.getElem?_map] at h
  cases q : (M1.zip (M2.zip M3))[i]? with
  | none => rw [q] at h; cases h
  | some y =>
    rw [q] at h
    cases h
    rw [List.getElem?_zip_eq_some, List.getElem?_zip_eq_some] at q
    exact ⟨y.1, y.2.1, y.2.2, q.1, q.2.1, q.2.2, rfl⟩
theorem zip3_len {M1 M2 M3 : List D} : (zipL [M1, M2, M3]).length = min M1.length (min M2.length M3.length) := by unfold zipL; simp
theorem zbody3_item {P : Program} {w : World} {K : PySem.W.Frag} {z TI TO i1 i2 i3 p1 p2 p3 : Addr} {b1 b2 b3 : Bool} {M1 M2 M3 : List D} (S : ZipSep3 z TI TO i1 i2 i3 [i1, p1] [i2, p2] [i3, p3]) (ne1 : p1 ≠ i1) (ne2 : p2 ≠ i2) (ne3 : p3 ≠ i3) (X : Cx) (hP : X.prog = P) (hw : X.w = w) (hK : X.K = K) (A : Around) (hh : A.handled = none) (i : Nat) (pins : List (Addr × Obj)) (s : Shared) (σ : L2.St) (H : Hp) (I : Inv X pins σ H s) (hf : ∀ b ∈ ([z, TI, TO, i1, i2, i3] : List Addr), FpOk X pins H b) (st : ZSt3 z TI TO i1 i2 i3 p1 p2 p3 b1 b2 b3 i s.heap) (sr : ZSrc3 K p1 p2 p3 b1 b2 b3 M1 M2 M3 H) (d : D) (hd : (zipL [M1, M2, M3])[i]? = some d)
    (Q : Value → Shared → Prop) (E : Value → Shared → Prop) (hQ : ∀ x h' tk, ZSt3 z TI TO i1 i2 i3 p1 p2 p3 b1 b2 b3 (i + 1) h' → (∀ b o, b ∉ ([z, TI, TO, i1, i2, i3] : List Addr) → s.heap.get? b = some o → h'.get? b = some o) → s.heap.objs.size ≤ h'.objs.size → Nw X pins σ H s h' x d → Q x { s with heap := h', toks := tk }) :
    wpAny (model P w) A (Builtin.«zip.__next__» ⟨[.ref z], []⟩) (fun fin s' => ∃ v, fin = .done (.ret v) ∧ Q v s') E s := by
  subst hP hw hK
  obtain ⟨⟨f0, b0, hz, hf0⟩, hTI, ⟨a1, a2, a3, hTO⟩, t1, t2, t3⟩ := st
  obtain ⟨⟨vs1, hq1, is1⟩, ⟨vs2, hq2, is2⟩, ⟨vs3, hq3, is3⟩⟩ := sr
  obtain ⟨d1, d2, d3, e1, e2, e3, rfl⟩ := zip3_get hd
  obtain ⟨its1, rv1, sb1, _⟩ := SqB.read I hq1
  obtain ⟨v1, hv1, iv1⟩ := is1.get e1
  obtain ⟨u1, hu1, ru1⟩ := rv1.get hv1
  have lt1 : i < its1.toArray.size := by have := (List.getElem?_eq_some_iff.mp hu1).1; simpa using this
  obtain ⟨its2, rv2, sb2, _⟩ := SqB.read I hq2
  obtain ⟨v2, hv2, iv2⟩ := is2.get e2
  obtain ⟨u2, hu2, ru2⟩ := rv2.get hv2
  have lt2 : i < its2.toArray.size := by have := (List.getElem?_eq_some_iff.mp hu2).1; simpa using this
  obtain ⟨its3, rv3, sb3, _⟩ := SqB.read I hq3
  obtain ⟨v3, hv3, iv3⟩ := is3.get e3
  obtain ⟨u3, hu3, ru3⟩ := rv3.get hv3
  have lt3 : i < its3.toArray.size := by have := (List.getElem?_eq_some_iff.mp hu3).1; simpa using this
  refine zx3_item S (drawsB b1 hh i1 p1 ne1 its1.toArray) (drawsB b2 hh i2 p2 ne2 its2.toArray) (drawsB b3 hh i3 p3 ne3 its3.toArray) hz hf0 hTI hTO ⟨t1, sb1⟩ ⟨t2, sb2⟩ ⟨t3, sb3⟩ lt1 lt2 lt3 fun x1 x2 x3 h' tk f1 bb y1 y2 y3 hx1 hx2 hx3 z1 hf1 hTO1 n1' n2' n3' hT n1 hk => ?_
  have ex1 : x1 = u1 := by
    have q : its1[i]? = some x1 := by simpa using hx1
    rw [hu1] at q
    exact (Option.some.inj q).symm
  subst ex1
  have ex2 : x2 = u2 := by
    have q : its2[i]? = some x2 := by simpa using hx2
    rw [hu2] at q
    exact (Option.some.inj q).symm
  subst ex2
  have ex3 : x3 = u3 := by
    have q : its3[i]? = some x3 := by simpa using hx3
    rw [hu3] at q
    exact (Option.some.inj q).symm
  subst ex3
  have kk : ∀ b o, b ∉ ([z, TI, TO, i1, i2, i3] : List Addr) → s.heap.get? b = some o → h'.get? b = some o := fun b o hb e => hk b o (fun q => hb (by simp [q])) (fun q => hb (by simp [q])) (fun q => hb (by simp [q])) (fun q => hb (by simp [q])) (fun q => hb (by simp [q])) e
  have hn : H s.heap.objs.size = none := I.hok.fresh (Nat.le_refl _)
  have t : TpM X.K H (upd H s.heap.objs.size (.tup [v1, v2, v3])) := TpM.new hn
  have new : ObjOk X.prog X.w (upd H s.heap.objs.size (.tup [v1, v2, v3])) h' s.heap.objs.size (.tup [v1, v2, v3]) := ⟨by show 3 ≤ sizeLine; decide, [x1, x2, x3], (.cons ru1 (.cons ru2 (.cons ru3 .nil))), ⟨_, hT, rfl, _, rfl⟩⟩
  refine hQ _ h' tk ⟨⟨f1, bb, z1, hf1⟩, hk TI _ S.TIz S.TITO S.TIi1 S.TIi2 S.TIi3 hTI, ⟨_, _, _,  hTO1⟩, n1'.1, n2'.1, n3'.1⟩ kk (by rw [n1]; exact Nat.le_succ _) ⟨_, .ref s.heap.objs.size, fun tk' => I.turnedNew (t' := tk') (ch := [z, TI, TO, i1, i2, i3]) kk hf (Nat.le_refl _) new, rfl, .tup (SqT.of upd_same) (.cons (iv1.mono t) (.cons (iv2.mono t) (.cons (iv3.mono t) .nil))), t, fun η h => h.new (h.free hn) t, fun b hb hl => ?_⟩
  rw [upd_ne (Nat.ne_of_lt hl)]
  exact hb
theorem zbody3_done {P : Program} {w : World} {K : PySem.W.Frag} {z TI TO i1 i2 i3 p1 p2 p3 : Addr} {b1 b2 b3 : Bool} {M1 M2 M3 : List D} (S : ZipSep3 z TI TO i1 i2 i3 [i1, p1] [i2, p2] [i3, p3]) (ne1 : p1 ≠ i1) (ne2 : p2 ≠ i2) (ne3 : p3 ≠ i3) (X : Cx) (hP : X.prog = P) (hw : X.w = w) (hK : X.K = K) (A : Around) (hh : A.handled = none) (i : Nat) (pins : List (Addr × Obj)) (s : Shared) (σ : L2.St) (H : Hp) (I : Inv X pins σ H s) (st : ZSt3 z TI TO i1 i2 i3 p1 p2 p3 b1 b2 b3 i s.heap) (sr : ZSrc3 K p1 p2 p3 b1 b2 b3 M1 M2 M3 H) (hle : i ≤ (zipL [M1, M2, M3]).length) (hl : (zipL [M1, M2, M3]).length ≤ i)
    (Q : Fin → Shared → Prop) (E : Value → Shared → Prop) (hE : ∀ h' tk e, (∀ b o, b ∉ ([z, TI, TO, i1, i2, i3] : List Addr) → s.heap.get? b = some o → h'.get? b = some o) → (∃ o, h'.get? e = some o ∧ o.cls = .type "StopIteration") → E (.ref e) { s with heap := h', toks := tk }) :
    wpAny (model P w) A (Builtin.«zip.__next__» ⟨[.ref z], []⟩) Q E s := by
  subst hP hw hK
  obtain ⟨⟨f0, b0, hz, hf0⟩, hTI, ⟨a1, a2, a3, hTO⟩, t1, t2, t3⟩ := st
  obtain ⟨⟨vs1, hq1, is1⟩, ⟨vs2, hq2, is2⟩, ⟨vs3, hq3, is3⟩⟩ := sr
  rw [zip3_len] at hle hl
  obtain ⟨its1, rv1, sb1, _⟩ := SqB.read I hq1
  have z1 : its1.toArray.size = M1.length := by rw [List.size_toArray, ← rv1.length, is1.length]
  obtain ⟨its2, rv2, sb2, _⟩ := SqB.read I hq2
  have z2 : its2.toArray.size = M2.length := by rw [List.size_toArray, ← rv2.length, is2.length]
  obtain ⟨its3, rv3, sb3, _⟩ := SqB.read I hq3
  have z3 : its3.toArray.size = M3.length := by rw [List.size_toArray, ← rv3.length, is3.length]
  exact zx3_end S (drawsB b1 hh i1 p1 ne1 its1.toArray) (drawsB b2 hh i2 p2 ne2 its2.toArray) (drawsB b3 hh i3 p3 ne3 its3.toArray) hz hf0 hTI hTO ⟨t1, sb1⟩ ⟨t2, sb2⟩ ⟨t3, sb3⟩ (by omega) (by omega) (by omega) (by omega) fun h' tk e hk he => hE h' tk e (fun b o hb q => hk b o (fun x => hb (by simp [x])) (fun x => hb (by simp [x])) (fun x => hb (by simp [x])) (fun x => hb (by simp [x])) (fun x => hb (by simp [x])) q) he
theorem inn_zip3 {P : Program} {w : World} {K : PySem.W.Frag} {z TI TO i1 i2 i3 p1 p2 p3 : Addr} {b1 b2 b3 : Bool} {M1 M2 M3 : List D} (S : ZipSep3 z TI TO i1 i2 i3 [i1, p1] [i2, p2] [i3, p3]) (ne1 : p1 ≠ i1) (ne2 : p2 ≠ i2) (ne3 : p3 ≠ i3) : Inn P w K z [z, TI, TO, i1, i2, i3] (fun i h => ZSt3 z TI TO i1 i2 i3 p1 p2 p3 b1 b2 b3 i h ∧ i ≤ (zipL [M1, M2, M3]).length) (ZSrc3 K p1 p2 p3 b1 b2 b3 M1 M2 M3) (zipL [M1, M2, M3]) where
  mem := by simp
  obj := fun i h ⟨st, _⟩ c hc => by
    obtain ⟨⟨f0, b0, hz, _⟩, hTI, ⟨a1, a2, a3, hTO⟩, t1, t2, t3⟩ := st
    have e : c = z ∨ c = TI ∨ c = TO ∨ c = i1 ∨ c = i2 ∨ c = i3 := by simpa using hc
    rcases e with q | q | q | q | q | q
    · rw [q]; exact ⟨_, hz, fun v q => nomatch q⟩
    · rw [q]; exact ⟨_, hTI, fun v q => nomatch q⟩
    · rw [q]; exact ⟨_, hTO, fun v q => nomatch q⟩
    · rw [q]; exact t1.obj
    · rw [q]; exact t2.obj
    · rw [q]; exact t3.obj
  keep := fun i h h' ⟨st, hi⟩ k => by
    obtain ⟨⟨f0, b0, hz, hf0⟩, hTI, ⟨a1, a2, a3, hTO⟩, t1, t2, t3⟩ := st
    exact ⟨⟨⟨f0, b0, k z (by simp) _ hz, hf0⟩, k TI (by simp) _ hTI, ⟨a1, a2, a3, k TO (by simp) _ hTO⟩, t1.at_ fun o q => k i1 (by simp) o q, t2.at_ fun o q => k i2 (by simp) o q, t3.at_ fun o q => k i3 (by simp) o q⟩, hi⟩
  item := by
    intro X hP hw hK A hh i pins s σ H I hf st sr d hd Q E hQ
    obtain ⟨st, hi⟩ := st
    obtain ⟨f0, b0, hz, _⟩ := st.1
    have hT : s.TypeIs (.ref z) "zip" := ⟨_, hz, rfl⟩
    have hlt := (List.getElem?_eq_some_iff.mp hd).1
    unfold Builtin.SmallTypes.nextOf
    refine wpAny_bind (wpAny_callSpecial?_slot (name := Str.ofString "__next__") hT F.slot_zip_next (wpAny_call_entry F.slot_zip_next hT F.entry_zip_next ?_ (F.args_zip_next_1 _)))
    exact zbody3_item S ne1 ne2 ne3 X hP hw hK A.in1 hh i pins s σ H I hf st sr d hd _ _ fun x h' tk k1 k2 k3 k4 => wpAny_pure (hQ x h' tk ⟨k1, hlt⟩ k2 k3 k4)
  done := by
    intro X hP hw hK A hh i pins s σ H I hf st sr hl Q E hE
    obtain ⟨st, hi⟩ := st
    obtain ⟨f0, b0, hz, _⟩ := st.1
    have hT : s.TypeIs (.ref z) "zip" := ⟨_, hz, rfl⟩
    unfold Builtin.SmallTypes.nextOf
    refine wpAny_bind (wpAny_callSpecial?_slot (name := Str.ofString "__next__") hT F.slot_zip_next (wpAny_call_entry F.slot_zip_next hT F.entry_zip_next ?_ (F.args_zip_next_1 _)))
    exact zbody3_done S ne1 ne2 ne3 X hP hw hK A.in1 hh i pins s σ H I st sr hi hl _ _ fun h' tk e k1 k2 => hE h' tk e k1 k2
theorem turn_z3 {P : Program} {w : World} {K : PySem.W.Frag} {z TI TO i1 i2 i3 p1 p2 p3 : Addr} {b1 b2 b3 : Bool} {M1 M2 M3 : List D} {elts : List Expr} {kk : Nat} {tpos : Pos} (S : ZipSep3 z TI TO i1 i2 i3 [i1, p1] [i2, p2] [i3, p3]) (ne1 : p1 ≠ i1) (ne2 : p2 ≠ i2) (ne3 : p3 ≠ i3) : Turn P w K (.Tuple elts kk tpos) (Jd K (ZSrc3 K p1 p2 p3 b1 b2 b3 M1 M2 M3) (zipL [M1, M2, M3])) [z, TI, TO, i1, i2, i3] z (fun i h => ZSt3 z TI TO i1 i2 i3 p1 p2 p3 b1 b2 b3 i h ∧ i ≤ (zipL [M1, M2, M3]).length) where
  mem := by simp
  obj := fun i h ⟨st, _⟩ c hc => by
    obtain ⟨⟨f0, b0, hz, _⟩, hTI, ⟨a1, a2, a3, hTO⟩, t1, t2, t3⟩ := st
    have e : c = z ∨ c = TI ∨ c = TO ∨ c = i1 ∨ c = i2 ∨ c = i3 := by simpa using hc
    rcases e with q | q | q | q | q | q
    · rw [q]; exact ⟨_, hz, fun v q => nomatch q⟩
    · rw [q]; exact ⟨_, hTI, fun v q => nomatch q⟩
    · rw [q]; exact ⟨_, hTO, fun v q => nomatch q⟩
    · rw [q]; exact t1.obj
    · rw [q]; exact t2.obj
    · rw [q]; exact t3.obj
  keep := fun i h h' ⟨st, hi⟩ k => by
    obtain ⟨⟨f0, b0, hz, hf0⟩, hTI, ⟨a1, a2, a3, hTO⟩, t1, t2, t3⟩ := st
    exact ⟨⟨⟨f0, b0, k z (by simp) _ hz, hf0⟩, k TI (by simp) _ hTI, ⟨a1, a2, a3, k TO (by simp) _ hTO⟩, t1.at_ fun o q => k i1 (by simp) o q, t2.at_ fun o q => k i2 (by simp) o q, t3.at_ fun o q => k i3 (by simp) o q⟩, hi⟩
  item := by
    intro X hP hw hK hc i pins s σ H E I hf st hg
    obtain ⟨st, hi⟩ := st
    obtain ⟨sr, hlt⟩ := hg
    obtain ⟨f0, b0, hz, _⟩ := id st.1
    have hT : s.TypeIs (.ref z) "zip" := ⟨_, hz, rfl⟩
    have hd : (zipL [M1, M2, M3])[i]? = some (zipL [M1, M2, M3])[i] := by simp [hlt]
    unfold pyNext
    refine wpAny_bind (wpAny_attempt (wpAny_callSpecial?_slot (name := Str.ofString "__next__") hT F.slot_zip_next (wpAny_call_entry F.slot_zip_next hT F.entry_zip_next ?_ (F.args_zip_next_1 _))))
    refine zbody3_item S ne1 ne2 ne3 X hP hw hK X.A.in1 (I.ok.hd hc) i pins s σ H I hf st sr _ hd _ _ fun x h' tk k1 k2 k3 k4 => wpAny_pure ⟨_, rfl, ?_⟩
    obtain ⟨H1, v, I1, rv, iv, tN, aN, nN⟩ := k4
    obtain ⟨⟨f1, b1', z1, hf1⟩, hTI, ⟨a1, a2, a3, hTO⟩, t1, t2, t3⟩ := k1
    have hx : ∃ T : Addr, x = .ref T := by
      obtain ⟨d1, d2, d3, _, _, _, q⟩ := zip3_get hd
      rw [q] at iv
      cases iv with
      | tup _ _ => cases rv; exact ⟨_, rfl⟩
    obtain ⟨T, rfl⟩ := hx
    refine letgo_zip (s := { s with heap := h', toks := tk }) z1 hf1 fun h2 f2 z2 hf2 sb => ?_
    have kk : ∀ b o, b ∉ [z] → h'.get? b = some o → h2.get? b = some o := fun b o hb q => (sb.2 b (by simpa using hb)).trans q
    have sz : ∀ b ∈ ([z, TI, TO, i1, i2, i3] : List Addr), H1 b = none ∧ FpOk X pins H1 b := fun b hb => by
      have lt : b < s.heap.objs.size := by
        obtain ⟨o, e, _⟩ := (inn_zip3 (P := P) (w := w) (K := K) (M1 := M1) (M2 := M2) (M3 := M3) S ne1 ne2 ne3).obj i s.heap ⟨st, hi⟩ b hb
        exact Heap.lt_size e
      have q := nN b (hf b hb).1 lt
      exact ⟨q, q, (hf b hb).2⟩
    have I2 := (I1 tk).turnedL (t' := tk) (ch := [z]) kk fun b hb => (sz b (by rw [show b = z by simpa using hb]; simp)).2
    subst hK
    refine ⟨v, H1, I2, rv, ⟨tN, aN, _, hd, iv⟩, ⟨⟨⟨f2, b1', z2, hf2⟩, (sb.2 _ S.TIz).trans hTI, ⟨a1, a2, a3, (sb.2 _ S.TOz).trans hTO⟩, t1.at_ fun o q => (sb.2 _ (Ne.symm S.zi1)).trans q, t2.at_ fun o q => (sb.2 _ (Ne.symm S.zi2)).trans q, t3.at_ fun o q => (sb.2 _ (Ne.symm S.zi3)).trans q⟩, hlt⟩, fun b hb => (sz b hb).1⟩
  done := by
    intro X hP hw hK hc i pins s σ H E I hf st hg
    obtain ⟨st, hi⟩ := st
    obtain ⟨sr, hle⟩ := hg
    obtain ⟨f0, b0, hz, _⟩ := id st.1
    have hT : s.TypeIs (.ref z) "zip" := ⟨_, hz, rfl⟩
    unfold pyNext
    refine wpAny_bind (wpAny_attempt (wpAny_callSpecial?_slot (name := Str.ofString "__next__") hT F.slot_zip_next (wpAny_call_entry F.slot_zip_next hT F.entry_zip_next ?_ (F.args_zip_next_1 _))))
    refine zbody3_done S ne1 ne2 ne3 X hP hw hK X.A.in1 (I.ok.hd hc) i pins s σ H I st sr hi hle _ _ fun h' tk e k1 k2 => ?_
    obtain ⟨o, ho, hcl⟩ := k2
    refine wpAny_bind (wpAny_isInstance (T := "StopIteration") (b := true) ⟨o, ho, hcl⟩ isSubtype_stop ?_)
    exact wpAny_pure ⟨rfl, I.turnedL (t' := tk) (ch := [z, TI, TO, i1, i2, i3]) k1 hf⟩
  self := fun A i s Q E st h => by
    obtain ⟨⟨⟨f0, b0, hz, _⟩, _⟩, _⟩ := st
    exact iter_zip hz h
section
variable {X : Cx} {tg a b c : Expr} {ta tb tc : DE} {pos : Pos}
/-- the zip is made -/
theorem mk_zip3 {y : Str} {np : Pos} (hc : X.calm = true) (hy : y = Str.ofString "zip") (gy : Gl X y) (my : X.mg y = none) (ha : PE X a (upE X.K ta)) (hb : PE X b (upE X.K tb)) (hcc : PE X c (upE X.K tc)) (ma : MoE ta) (mb : MoE tb) (mc : MoE tc) (hs : nst a = true) (hs2 : nst b = true) (hs3 : nst c = true) {pins : List (Addr × Obj)} {s : Shared} {σ : L2.St} {H : Hp} {δ : DSt} {η : Sto} {R : List D → (Sto → Prop) → Sto → Prop} {Q : Value → Shared → Prop} (I : Inv X pins σ H s) (sl : Sl X.K H σ δ) (ab : Abs X.K η H) (h : ta δ η fun v η1 => tb δ η1 fun w η2 => tc δ η2 fun u η3 => zipD [v, w, u] η3 R)
    (hQ : ∀ z TI TO i1 i2 i3 p1 p2 p3 (b1 : Bool) (b2 : Bool) (b3 : Bool) M1 M2 M3 gd η' H' s', ZipSep3 z TI TO i1 i2 i3 [i1, p1] [i2, p2] [i3, p3] → p1 ≠ i1 → p2 ≠ i2 → p3 ≠ i3 → Inv X pins σ H' s' → (∀ b ∈ ([z, TI, TO, i1, i2, i3] : List Addr), FpOk X pins H' b) → TpM X.K H H' → Abs X.K η' H' → R (zipL [M1, M2, M3]) gd η' →
      (∀ H2 η2, TpM X.K H' H2 → Abs X.K η2 H2 → gd η2 → ZSrc3 X.K p1 p2 p3 b1 b2 b3 M1 M2 M3 H2) → ZSt3 z TI TO i1 i2 i3 p1 p2 p3 b1 b2 b3 0 s'.heap → ZR s'.heap z TI TO .none false → Q (.ref z) s') :
    wpAny (model X.prog X.w) X.A (eval (.Call (.Name y np) [a, b, c] [] pos) X.env) Q X.xe s := by
  have hy' : y = ("zip" : Str) := hy
  subst hy'
  have key : (tCons (upE X.K ta) (tCons (upE X.K tb) (tCons (upE X.K tc) tNil))) σ H fun us H1 => ∃ v w u η1, IsDs X.K H1 us [v, w, u] ∧ Abs X.K η1 H1 ∧ TpM X.K H H1 ∧ zipD [v, w, u] η1 R := by
    exact upE.seq ma sl ab h fun x η1 u H1 h t a i sl => upE.seq mb sl a h fun y η2 u2 H2 h t' a' j sl' => upE.seq mc sl' a' h fun y3 η3 u3 H3 h t3 a3 j3 sl3 => ⟨x, y, y3, η3, .cons (i.mono (t'.trans t3)) (.cons (j.mono t3) (.cons j3 .nil)), a3, (t.trans t').trans t3, h⟩
  refine Call_ (ld_blt I gy my PyProof.Rows.boot_zip (PyProof.Rows.callWith_type1 (thn ((pa_cons ha (pa_cons hb (pa_cons hcc pa_nil (star_no hs3)) (star_no hs2)) (star_no hs)).run pos pins s σ H _ I key) fun us s1 ⟨vs, H1, I1, r1, q1⟩ => ?_) (star_no hs) (plain_of (by simp [hs, hs2, hs3]))))
  obtain ⟨v, w, u, η1, is, a1, t1, q⟩ := q1
  simp only [zipD] at q
  obtain ⟨M1, M2, M3, g1, g2, g3, q⟩ := q
  cases is with
  | cons j1 is =>
  cases r1 with
  | cons r1' r1 =>
  cases is with
  | cons j2 is =>
  cases r1 with
  | cons r2' r1 =>
  cases is with
  | cons j3 is =>
  cases r1 with
  | cons r3' r1 =>
  cases is
  cases r1
  obtain ⟨p1, w1, b1, rfl, hq1, hi1, hk1⟩ := src_of a1 j1 g1
  cases r1'
  obtain ⟨its1, rv1, sb1, o1, ho1⟩ := SqB.read I1 hq1
  have l1 : p1 < s1.heap.objs.size := Heap.lt_size ho1
  obtain ⟨p2, w2, b2, rfl, hq2, hi2, hk2⟩ := src_of a1 j2 g2
  cases r2'
  obtain ⟨its2, rv2, sb2, o2, ho2⟩ := SqB.read I1 hq2
  have l2 : p2 < s1.heap.objs.size := Heap.lt_size ho2
  obtain ⟨p3, w3, b3, rfl, hq3, hi3, hk3⟩ := src_of a1 j3 g3
  cases r3'
  obtain ⟨its3, rv3, sb3, o3, ho3⟩ := SqB.read I1 hq3
  have l3 : p3 < s1.heap.objs.size := Heap.lt_size ho3
  refine zip_begins3 (begB b1 p1 its1.toArray) (begB b2 p2 its2.toArray) (begB b3 p3 its3.toArray) sb1 sb2 sb3 fun h' hz hTI hTO c1 c2 c3 hsz hk => ?_
  have I2 : Inv X pins σ H1 { s1 with heap := h' } := I1.kept (t' := s1.toks) hk
  refine hQ _ _ _ _ _ _ p1 p2 p3 b1 b2 b3 M1 M2 M3 _ η1 H1 _ (zip_sep3 (fun b hb => by rw [show b = p1 by simpa using hb]; exact l1) (fun b hb => by rw [show b = p2 by simpa using hb]; exact l2) (fun b hb => by rw [show b = p3 by simpa using hb]; exact l3)) (Nat.ne_of_lt l1) (Nat.ne_of_lt (Nat.lt_add_right _ l2)) (Nat.ne_of_lt (Nat.lt_add_right _ l3)) I2 (fun b hb => ?_) t1 a1 q (fun H2 η2 t a g => ⟨hk1 H2 η2 t a g.1, hk2 H2 η2 t a g.2.1, hk3 H2 η2 t a g.2.2⟩) ⟨⟨_, _, hz, .inl rfl⟩, hTI, ⟨_, _, _, hTO⟩, ItB.of c1, ItB.of c2, ItB.of c3⟩ hz
  have hle : s1.heap.objs.size ≤ b := by
    simp only [List.mem_cons, List.not_mem_nil, or_false] at hb
    rcases hb with q | q | q | q | q | q <;> rw [q] <;> first | exact Nat.le_refl _ | exact Nat.le_add_right _ _
  exact I1.fpOk hle (I1.hok.fresh hle)
end
end DL

set_option Elab.async false
set_option linter.all false
set_option maxRecDepth 100000
set_option maxHeartbeats 4000000
/-! DLZ4: enumerate is made; the rules for what a loop walks. -/
namespace DL
open PySem PySem.Spec PyProof.Rows L2
theorem meets_enum_new {v : Value} {o : Obj} {H : Heap → Prop} (B : Begins v o H) :
    Meets (Builtin.«enumerate.__new__» ⟨[.type "enumerate", v], []⟩) (fun _ R s => H s.heap ∧
      R (.ok (.ret (.ref (s.heap.push o).objs.size))) { s with heap := (s.heap.push o).push { cls := .type "enumerate", data := .fields #[.none, .bool false, .ref s.heap.objs.size, rawInt 0, .none, .none] } }) :=
  .of_wp fun prog w A R s h => by
    obtain ⟨hp, g, d, tk, os⟩ := s
    obtain ⟨h1, h⟩ := h
    have hsub := sub_enumerate
    have q1 : ∀ {A' : Around} {E : Value → Shared → Prop} {Q : Value → Shared → Prop}, Q (.ref hp.objs.size) ⟨hp.push o, g, d, tk, os⟩ → wpAny (model prog w) A' (pyIter v) Q E ⟨hp, g, d, tk, os⟩ :=
      fun q => B.iter prog w _ _ ⟨hp, g, d, tk, os⟩ _ h1 q
    wp_walk using q1
    refine wpAny_stack_any fun st => wpAny_pure ?_
    split
    · rename_i c _ _ _ _ _
      cases (c == Value.type "enumerate")
      · wp_walk using q1
        exact ⟨_, rfl, h⟩
      · wp_walk using q1
        exact ⟨_, rfl, h⟩
    · wp_walk using q1
      exact ⟨_, rfl, h⟩
theorem meets_enum_it {v : Value} {it : Addr} {H : Heap → Prop} (hi : ∀ (prog : Program) (w : World) (A : Around) (E : Value → Shared → Prop) (s : Shared) (Q : Value → Shared → Prop), H s.heap → Q (.ref it) s → wpAny (model prog w) A (pyIter v) Q E s) :
    Meets (Builtin.«enumerate.__new__» ⟨[.type "enumerate", v], []⟩) (fun _ R s => H s.heap ∧
      R (.ok (.ret (.ref s.heap.objs.size))) { s with heap := s.heap.push { cls := .type "enumerate", data := .fields #[.none, .bool false, .ref it, rawInt 0, .none, .none] } }) :=
  .of_wp fun prog w A R s h => by
    obtain ⟨hp, g, d, tk, os⟩ := s
    obtain ⟨h1, h⟩ := h
    have hsub := sub_enumerate
    have q1 : ∀ {A' : Around} {E : Value → Shared → Prop} {Q : Value → Shared → Prop}, Q (.ref it) ⟨hp, g, d, tk, os⟩ → wpAny (model prog w) A' (pyIter v) Q E ⟨hp, g, d, tk, os⟩ :=
      fun q => hi prog w _ _ ⟨hp, g, d, tk, os⟩ _ h1 q
    wp_walk using q1
    refine wpAny_stack_any fun st => wpAny_pure ?_
    split
    · rename_i c _ _ _ _ _
      cases (c == Value.type "enumerate")
      · wp_walk using q1
        exact ⟨_, rfl, h⟩
      · wp_walk using q1
        exact ⟨_, rfl, h⟩
    · wp_walk using q1
      exact ⟨_, rfl, h⟩
section
variable {prog : Program} {w : World} {A : Around} {E : Value → Shared → Prop} {s : Shared}
theorem call_enumB {v : Value} {o : Obj} {H : Heap → Prop} {Q : Value → Shared → Prop} (B : Begins v o H) (h1 : H s.heap)
    (h : ∀ h', IsEnum h' (s.heap.objs.size + 1) s.heap.objs.size 0 .none → h'.get? s.heap.objs.size = some o → (∀ b o, s.heap.get? b = some o → h'.get? b = some o) → Q (.ref (s.heap.objs.size + 1)) { s with heap := h' }) :
    wpAny (model prog w) A (call (.type "enumerate") [v]) Q E s := by
  refine callType_new F.called_enumerate (by decide) (F.typeCall_enumerate_1 _) (F.newCall_enumerate_1 _) (fun obj => F.args_object_init_2 obj _) F.entry_enumerate_new (meets_enum_new B) ⟨h1, ?_⟩
  have hz : (s.heap.push o).objs.size = s.heap.objs.size + 1 := Heap.size_push ..
  show _ ∧ _
  rw [hz]
  have he : IsEnum ((s.heap.push o).push { cls := .type "enumerate", data := .fields #[.none, .bool false, .ref s.heap.objs.size, rawInt 0, .none, .none] }) (s.heap.objs.size + 1) s.heap.objs.size 0 .none := by
    have := Heap.get?_push_size (s.heap.push o) (o := { cls := .type "enumerate", data := .fields #[.none, .bool false, .ref s.heap.objs.size, rawInt 0, .none, .none] }) rfl
    rw [hz] at this; exact this
  exact ⟨⟨_, he, rfl⟩, h _ he (Heap.get?_push_of_some _ (Heap.get?_push_size _ B.free)) fun b o x => Heap.get?_push_of_some _ (Heap.get?_push_of_some _ x)⟩
theorem call_enumZ {z TI TO : Addr} {f0 : Value} {b0 : Bool} {Q : Value → Shared → Prop} (hz : ZR s.heap z TI TO f0 b0)
    (h : ∀ h', IsEnum h' s.heap.objs.size z 0 .none → (∀ b o, s.heap.get? b = some o → h'.get? b = some o) → Q (.ref s.heap.objs.size) { s with heap := h' }) :
    wpAny (model prog w) A (call (.type "enumerate") [.ref z]) Q E s := by
  refine callType_new F.called_enumerate (by decide) (F.typeCall_enumerate_1 _) (F.newCall_enumerate_1 _) (fun obj => F.args_object_init_2 obj _) F.entry_enumerate_new
    (meets_enum_it (v := .ref z) (it := z) (H := fun h => ZR h z TI TO f0 b0) fun prog w A E s Q h q => iter_zip h q) ⟨hz, ?_⟩
  have he : IsEnum (s.heap.push { cls := .type "enumerate", data := .fields #[.none, .bool false, .ref z, rawInt 0, .none, .none] }) s.heap.objs.size z 0 .none := Heap.get?_push_size _ rfl
  exact ⟨⟨_, he, rfl⟩, h _ he fun b o x => Heap.get?_push_of_some _ x⟩
end
section
variable {X : Cx} {tg a b c : Expr} {ta tb tc : DE} {pos : Pos}
theorem tup_of {tg : Expr} (h : isT tg = true) : ∃ es k p, tg = .Tuple es k p := by
  cases tg <;> first | exact ⟨_, _, _, rfl⟩ | exact Bool.noConfusion h
theorem it_src {K : PySem.W.Frag} {H : Hp} {η : Sto} {d : D} {v : V} {R : List D → (Sto → Prop) → Sto → Prop} (ab : Abs K η H) (i : IsD K H v d) (g : itD d η R) :
    ∃ p vs b L gd, v = .ref p ∧ SqB b K H p vs ∧ IsDs K H vs L ∧ R L gd η ∧ ∀ H2 η2, TpM K H H2 → Abs K η2 H2 → gd η2 → SrcB b K p L H2 := by
  cases i <;> simp only [itD] at g
  case tup a vs ds hs ht => exact ⟨a, vs, true, ds, _, rfl, hs, ht, g, fun H2 η2 t _ _ => ⟨vs, t.1 _ _ hs, ht.mono t⟩⟩
  case rl a vs ds hs ht => exact ⟨a, vs, false, ds, _, rfl, hs.sq, ht, g, fun H2 η2 t _ _ => ⟨vs, (t.2 _ _ hs).sq, ht.mono t⟩⟩
  case ref a =>
    obtain ⟨xs, e, g⟩ := g
    obtain ⟨vs, e1, ht⟩ := lst_of ab e
    refine ⟨a, vs, false, xs, _, rfl, SqL.of e1, ht, g, fun H2 η2 t a2 g2 => ?_⟩
    obtain ⟨ws, e2, h2⟩ := lst_of a2 g2
    exact ⟨ws, SqL.of e2, h2⟩
theorem si_enm {y : Str} {np : Pos} (hc : X.calm = true) (ht : isT tg = true) (hy : y = Str.ofString "enumerate") (gy : Gl X y) (my : X.mg y = none) (ha : PE X a (upE X.K ta)) (ma : MoE ta) (hs : nst a = true) :
    PI X tg (.Call (.Name y np) [a] [] pos) (upI X.K fun δ η Q => ta δ η fun v η1 => itD v η1 fun L gd η2 => Q (enmL L) gd η2) := by
  obtain ⟨elts, kk, tpos, rfl⟩ := tup_of ht
  have hy' : y = ("enumerate" : Str) := hy
  subst hy'
  refine ⟨fun pins s σ H R I hR => ?_⟩
  obtain ⟨δ, η, sl, ab, h⟩ := hR
  have key : tCons (upE X.K ta) tNil σ H fun us H1 => ∃ v x η1, us = [v] ∧ IsD X.K H1 v x ∧ Abs X.K η1 H1 ∧ TpM X.K H H1 ∧ itD x η1 fun L gd η2 => endI X.K H R (enmL L) gd η2 :=
    upE.seq ma sl ab h fun x η1 u H1 h t a i sl => ⟨u, x, η1, rfl, i, a, t, h⟩
  refine Call_ (ld_blt I gy my PyProof.Rows.boot_enumerate (PyProof.Rows.callWith_type1 (thn ((pa_cons ha pa_nil (star_no hs)).run pos pins s σ H _ I key) fun us s1 ⟨vs, H1, I1, r1, q1⟩ => ?_) (star_no hs) rfl))
  obtain ⟨v, x, η1, rfl, i, a1, t1, q⟩ := q1
  obtain ⟨p, ws, b, L, gd, rfl, hq, is, hR, hsrc⟩ := it_src a1 i q
  obtain ⟨u, rfl, ru⟩ := r1.one
  cases ru
  obtain ⟨its, rv, sb, o, ho⟩ := SqB.read I1 hq
  have lp : p < s1.heap.objs.size := Heap.lt_size ho
  refine call_enumB (begB b p its.toArray) sb fun h' he hi hk => wpAny_pyIter_enum he ?_
  have I2 : Inv X pins σ H1 { s1 with heap := h' } := I1.kept (t' := s1.toks) hk
  refine ⟨s1.heap.objs.size + 1, [s1.heap.objs.size + 1, s1.heap.objs.size], _, Jd X.K (SrcB b X.K p L) (enmL L), H1, rfl, I2, turn_en (inn_seq b s1.heap.objs.size p L (Nat.ne_of_lt lp)) _ (by simp), ⟨⟨_, he⟩, ItB.of hi⟩, fun c hcm => ?_, hR _ _ t1 a1 (jd_ok hsrc)⟩
  have e' : c = s1.heap.objs.size + 1 ∨ c = s1.heap.objs.size := by simpa using hcm
  have hle : s1.heap.objs.size ≤ c := by
    rcases e' with z | z
    · rw [z]; exact Nat.le_add_right _ _
    · rw [z]; exact Nat.le_refl _
  exact I1.fpOk hle (I1.hok.fresh hle)
theorem si_zip2 {y : Str} {np : Pos} (hc : X.calm = true) (ht : isT tg = true) (hy : y = Str.ofString "zip") (gy : Gl X y) (my : X.mg y = none) (ha : PE X a (upE X.K ta)) (hb : PE X b (upE X.K tb)) (ma : MoE ta) (mb : MoE tb) (hs : nst a = true) (hs2 : nst b = true) :
    PI X tg (.Call (.Name y np) [a, b] [] pos) (upI X.K fun δ η Q => ta δ η fun v η1 => tb δ η1 fun w η2 => zipD [v, w] η2 Q) := by
  obtain ⟨elts, kk, tpos, rfl⟩ := tup_of ht
  refine ⟨fun pins s σ H R I hR => ?_⟩
  obtain ⟨δ, η, sl, ab, h⟩ := hR
  refine mk_zip2 hc hy gy my ha hb ma mb hs hs2 I sl ab h fun z TI TO i1 i2 p1 p2 b1 b2 M1 M2 gd η' H' s' S n1 n2 I' hf t a r src st hz => ?_
  refine iter_zip hz ?_
  exact ⟨z, _, _, Jd X.K (ZSrc2 X.K p1 p2 b1 b2 M1 M2) (zipL [M1, M2]), H', rfl, I', turn_z2 S n1 n2, ⟨st, Nat.zero_le _⟩, hf, r _ _ t a (jd_ok src)⟩
theorem si_zip3 {y : Str} {np : Pos} (hc : X.calm = true) (ht : isT tg = true) (hy : y = Str.ofString "zip") (gy : Gl X y) (my : X.mg y = none) (ha : PE X a (upE X.K ta)) (hb : PE X b (upE X.K tb)) (hcc : PE X c (upE X.K tc)) (ma : MoE ta) (mb : MoE tb) (mc : MoE tc) (hs : nst a = true) (hs2 : nst b = true) (hs3 : nst c = true) :
    PI X tg (.Call (.Name y np) [a, b, c] [] pos) (upI X.K fun δ η Q => ta δ η fun v η1 => tb δ η1 fun w η2 => tc δ η2 fun u η3 => zipD [v, w, u] η3 Q) := by
  obtain ⟨elts, kk, tpos, rfl⟩ := tup_of ht
  refine ⟨fun pins s σ H R I hR => ?_⟩
  obtain ⟨δ, η, sl, ab, h⟩ := hR
  refine mk_zip3 hc hy gy my ha hb hcc ma mb mc hs hs2 hs3 I sl ab h fun z TI TO i1 i2 i3 p1 p2 p3 b1 b2 b3 M1 M2 M3 gd η' H' s' S n1 n2 n3 I' hf t a r src st hz => ?_
  refine iter_zip hz ?_
  exact ⟨z, _, _, Jd X.K (ZSrc3 X.K p1 p2 p3 b1 b2 b3 M1 M2 M3) (zipL [M1, M2, M3]), H', rfl, I', turn_z3 S n1 n2 n3, ⟨st, Nat.zero_le _⟩, hf, r _ _ t a (jd_ok src)⟩
/-- enumerate of a zip that was just made -/
theorem pi_ez {y : Str} {np pos : Pos} {e : Expr} {pins : List (Addr × Obj)} {s : Shared} {σ : L2.St} {H : Hp} {R : It → Hp → Prop} {elts : List Expr} {kk : Nat} {tpos : Pos} (hy : y = Str.ofString "enumerate") (gy : Gl X y) (my : X.mg y = none) (I : Inv X pins σ H s) (hs : nst e = true)
    (h : wpAny (model X.prog X.w) X.A (eval e X.env) (fun v s' => ∃ z TI TO f0 b0 H' fp St Src L, v = .ref z ∧ Inv X pins σ H' s' ∧ ZR s'.heap z TI TO f0 b0 ∧ Inn X.prog X.w X.K z fp St Src L ∧ St 0 s'.heap ∧ (∀ b ∈ fp, FpOk X pins H' b) ∧ R (Jd X.K Src (enmL L)) H') X.xe s) :
    wpAny (model X.prog X.w) X.A (eval (.Call (.Name y np) [e] [] pos) X.env) (fun v s1 => wpAny (model X.prog X.w) X.A (pyIter v) (PIE X pins σ (.Tuple elts kk tpos) R) X.xe s1) X.xe s := by
  have hy' : y = ("enumerate" : Str) := hy
  subst hy'
  have h1 : wpAny (model X.prog X.w) X.A (spliced (backTo pos (starEach [e] X.env))) (fun us s' => ∃ z TI TO f0 b0 H' fp St Src L, us = [.ref z] ∧ Inv X pins σ H' s' ∧ ZR s'.heap z TI TO f0 b0 ∧ Inn X.prog X.w X.K z fp St Src L ∧ St 0 s'.heap ∧ (∀ b ∈ fp, FpOk X pins H' b) ∧ R (Jd X.K Src (enmL L)) H') X.xe s := by
    rw [star_no hs]
    show wpAny _ _ (spliced ((false, eval e X.env) :: backTo pos (starEach [] X.env))) _ _ s
    refine Calls.spliced_cons (thn h fun u s1 ⟨z, TI, TO, f0, b0, H', fp, S0, Src, L, e1, q⟩ => ?_)
    exact Calls.spliced_nil ⟨z, TI, TO, f0, b0, H', fp, S0, Src, L, by rw [e1], q⟩
  refine Call_ (ld_blt I gy my PyProof.Rows.boot_enumerate (PyProof.Rows.callWith_type1 (thn h1 fun us s1 q => ?_) (star_no hs) rfl))
  obtain ⟨z, TI, TO, f0, b0, H1, fp, S0, Src, L, rfl, I1, hz, N, st, hf, r⟩ := q
  refine call_enumZ hz fun h' he hk => wpAny_pyIter_enum he ?_
  have I2 : Inv X pins σ H1 { s1 with heap := h' } := I1.kept (t' := s1.toks) hk
  have old : ∀ b ∈ fp, b < s1.heap.objs.size := fun b hb => by
    obtain ⟨o, e1, _⟩ := N.obj _ _ st b hb
    exact Heap.lt_size e1
  have nef : s1.heap.objs.size ∉ fp := fun hm => Nat.lt_irrefl _ (old _ hm)
  refine ⟨s1.heap.objs.size, s1.heap.objs.size :: fp, _, Jd X.K Src (enmL L), H1, rfl, I2, turn_en N _ nef, ⟨⟨_, he⟩, N.keep _ _ _ st fun b _ o q => hk b o q⟩, fun c hcm => ?_, r⟩
  rcases List.mem_cons.mp hcm with rfl | hcm
  · exact I1.fpOk (Nat.le_refl _) (I1.hok.fresh (Nat.le_refl _))
  · exact hf c hcm
theorem si_ez2 {y z : Str} {np np2 pos2 : Pos} (hc : X.calm = true) (ht : isT tg = true) (hz : z = Str.ofString "enumerate") (gz : Gl X z) (mz : X.mg z = none) (hy : y = Str.ofString "zip") (gy : Gl X y) (my : X.mg y = none) (ha : PE X a (upE X.K ta)) (hb : PE X b (upE X.K tb)) (ma : MoE ta) (mb : MoE tb) (hs : nst a = true) (hs2 : nst b = true) :
    PI X tg (.Call (.Name z np2) [.Call (.Name y np) [a, b] [] pos2] [] pos) (upI X.K fun δ η Q => ta δ η fun v η1 => tb δ η1 fun w η2 => zipD [v, w] η2 fun L gd η3 => Q (enmL L) gd η3) := by
  obtain ⟨elts, kk, tpos, rfl⟩ := tup_of ht
  refine ⟨fun pins s σ H R I hR => ?_⟩
  obtain ⟨δ, η, sl, ab, h⟩ := hR
  refine pi_ez hz gz mz I rfl ?_
  refine mk_zip2 hc hy gy my ha hb ma mb hs hs2 I sl ab h fun z TI TO i1 i2 p1 p2 b1 b2 M1 M2 gd η' H' s' S n1 n2 I' hf t a r src st hz => ?_
  exact ⟨z, TI, TO, _, _, H', _, _, ZSrc2 X.K p1 p2 b1 b2 M1 M2, zipL [M1, M2], rfl, I', hz, inn_zip2 S n1 n2, ⟨st, Nat.zero_le _⟩, hf, r _ _ t a (jd_ok src)⟩
theorem si_ez3 {y z : Str} {np np2 pos2 : Pos} (hc : X.calm = true) (ht : isT tg = true) (hz : z = Str.ofString "enumerate") (gz : Gl X z) (mz : X.mg z = none) (hy : y = Str.ofString "zip") (gy : Gl X y) (my : X.mg y = none) (ha : PE X a (upE X.K ta)) (hb : PE X b (upE X.K tb)) (hcc : PE X c (upE X.K tc)) (ma : MoE ta) (mb : MoE tb) (mc : MoE tc) (hs : nst a = true) (hs2 : nst b = true) (hs3 : nst c = true) :
    PI X tg (.Call (.Name z np2) [.Call (.Name y np) [a, b, c] [] pos2] [] pos) (upI X.K fun δ η Q => ta δ η fun v η1 => tb δ η1 fun w η2 => tc δ η2 fun u η3 => zipD [v, w, u] η3 fun L gd η4 => Q (enmL L) gd η4) := by
  obtain ⟨elts, kk, tpos, rfl⟩ := tup_of ht
  refine ⟨fun pins s σ H R I hR => ?_⟩
  obtain ⟨δ, η, sl, ab, h⟩ := hR
  refine pi_ez hz gz mz I rfl ?_
  refine mk_zip3 hc hy gy my ha hb hcc ma mb mc hs hs2 hs3 I sl ab h fun z TI TO i1 i2 i3 p1 p2 p3 b1 b2 b3 M1 M2 M3 gd η' H' s' S n1 n2 n3 I' hf t a r src st hz => ?_
  exact ⟨z, TI, TO, _, _, H', _, _, ZSrc3 X.K p1 p2 p3 b1 b2 b3 M1 M2 M3, zipL [M1, M2, M3], rfl, I', hz, inn_zip3 S n1 n2 n3, ⟨st, Nat.zero_le _⟩, hf, r _ _ t a (jd_ok src)⟩
end
end DL

set_option Elab.async false
set_option linter.all false
set_option maxRecDepth 100000
set_option maxHeartbeats 4000000
/-! DL11: what is read off an own syntax tree holds of the program that it tells. -/
namespace DL
open PySem PySem.Spec PyProof.Rows L2
section
variable {C : Calls} (hC : MoC C)
def Ctx.G (Γ : Ctx) : Str → Option D := fun x => Γ.T.con.lookup x
theorem own_snd {Γ : Ctx} {own : List Nat} : (own.map fun i => (Γ.N.getD i (Str.ofString ""), i)).map (·.2) = own := by
  rw [List.map_map]
  exact List.map_id'' (fun _ => rfl) own
theorem mGs_len {Γ : Ctx} : ∀ {ts : Tgs} {es : List Expr}, mGs Γ ts es = true → ts.len = es.length
  | .nil, es, h => by
    simp only [mGs] at h
    split at h
    · rfl
    · cases h
  | .cons t ts, es, h => by
    simp only [mGs] at h
    split at h
    · simp only [Bool.and_eq_true] at h
      rw [Tgs.len, List.length_cons, mGs_len h.2]
    · cases h
include hC
mutual
theorem sE : ∀ (e : E) (Γ : Ctx) (X : Cx) (ok : OkX Γ C X) (ex : Expr), mE Γ e ex = true → PE X ex (upE X.K (rdE C Γ.G e))
  | .var i, Γ, X, ok, ex, h => by
    simp only [mE] at h
    split at h
    · simp only [Bool.and_eq_true, decide_eq_true_eq, Bool.not_eq_true'] at h
      exact se_var (by rw [ok.N]; exact h.1.1.1) (by rw [ok.sc]; exact vis_of h.1.1.2) (dbg_of h.1.2) h.2
    · cases h
  | .int i, Γ, X, ok, ex, h => by
    simp only [mE] at h
    split at h
    · have := of_decide_eq_true h; subst this; exact se_con pe_int fun _ => .int _
    · cases h
  | .str i, Γ, X, ok, ex, h => by
    simp only [mE] at h
    split at h
    · have := of_decide_eq_true h; subst this; exact se_con pe_str fun _ => .str _
    · cases h
  | .bl i, Γ, X, ok, ex, h => by
    simp only [mE] at h
    split at h
    · have := of_decide_eq_true h; subst this; exact se_con pe_bl fun _ => .bl _
    · cases h
  | .non, Γ, X, ok, ex, h => by
    simp only [mE] at h
    split at h
    · exact se_con pe_non fun _ => .non
    · cases h
  | .glo x, Γ, X, ok, ex, h => by
    simp only [mE] at h
    split at h
    · simp only [Bool.and_eq_true, decide_eq_true_eq] at h
      obtain ⟨⟨⟨e, g⟩, s⟩, dbg⟩ := h
      subst e
      obtain ⟨d, hd⟩ := Option.isSome_iff_exists.mp s
      obtain ⟨v, u, h1, h2, h3⟩ := ok.prim.con x d hd
      refine pe_imp (pe_glob (gl_of (by rw [ok.sc]; exact g)) h1 h2 (dbg_of dbg)) fun σ H Q ⟨δ, η, sl, ab, q⟩ => ?_
      simp only [rdE] at q
      obtain ⟨d', e', q⟩ := q
      have : d = d' := by
        have e2 : Γ.T.con.lookup x = some d' := e'
        rw [hd] at e2
        exact Option.some.inj e2
      subst this
      exact q.here ab (h3 H)
    · cases h
  | .bin o a b, Γ, X, ok, ex, h => by
    simp only [mE] at h
    split at h
    · simp only [Bool.and_eq_true, decide_eq_true_eq] at h
      obtain ⟨⟨e, h1⟩, h2⟩ := h
      subst e
      exact se_bin (sE a Γ X ok _ h1) (sE b Γ X ok _ h2) (mo_E hC a) (mo_E hC b)
    · cases h
  | .neg a, Γ, X, ok, ex, h => by
    simp only [mE] at h
    split at h
    · exact se_neg (sE a Γ X ok _ h) (mo_E hC a)
    · cases h
  | .cmp o a b, Γ, X, ok, ex, h => by
    simp only [mE] at h
    split at h
    · simp only [Bool.and_eq_true, decide_eq_true_eq, Bool.not_eq_true'] at h
      obtain ⟨⟨⟨e, hm⟩, h1⟩, h2⟩ := h
      subst e
      exact se_cmp ok.units (sE a Γ X ok _ h1) (sE b Γ X ok _ h2) (mo_E hC a) (mo_E hC b) hm
    · cases h
  | .chn o p a b c, Γ, X, ok, ex, h => by
    simp only [mE] at h
    split at h
    · simp only [Bool.and_eq_true, decide_eq_true_eq, Bool.not_eq_true'] at h
      obtain ⟨⟨⟨⟨⟨e, e2⟩, hm⟩, h1⟩, h2⟩, h3⟩ := h
      subst e e2
      exact se_chn ok.units (sE a Γ X ok _ h1) (sE b Γ X ok _ h2) (sE c Γ X ok _ h3) (mo_E hC a) (mo_E hC b) (mo_E hC c) hm
    · cases h
  | .and a b, Γ, X, ok, ex, h => by
    simp only [mE] at h
    split at h
    · simp only [Bool.and_eq_true] at h
      obtain ⟨h1, h2⟩ := h
      split at h2
      · exact se_andC (sE a Γ X ok _ h1) (pe_one (sE b Γ X ok _ h2)) (mo_E hC a) (mo_E hC b)
      · exact se_andC (sE a Γ X ok _ h1) (sE b Γ X ok _ h2) (mo_E hC a) (mo_E hC b)
    · cases h
  | .or a b, Γ, X, ok, ex, h => by
    simp only [mE] at h
    split at h
    · simp only [Bool.and_eq_true] at h
      obtain ⟨h1, h2⟩ := h
      split at h2
      · exact se_orC (sE a Γ X ok _ h1) (pe_one (sE b Γ X ok _ h2)) (mo_E hC a) (mo_E hC b)
      · exact se_orC (sE a Γ X ok _ h1) (sE b Γ X ok _ h2) (mo_E hC a) (mo_E hC b)
    · cases h
  | .not a, Γ, X, ok, ex, h => by
    simp only [mE] at h
    split at h
    · exact se_not (sE a Γ X ok _ h) (mo_E hC a)
    · cases h
  | .ife c a b, Γ, X, ok, ex, h => by
    simp only [mE] at h
    split at h
    · simp only [Bool.and_eq_true] at h
      exact se_ife (sT c Γ X ok _ h.1.1) (sE a Γ X ok _ h.1.2) (sE b Γ X ok _ h.2) (mo_T hC c) (mo_E hC a) (mo_E hC b)
    · cases h
  | .idx a i, Γ, X, ok, ex, h => by
    simp only [mE] at h
    split at h
    · simp only [Bool.and_eq_true] at h
      exact se_idx (sE a Γ X ok _ h.1.2) (sE i Γ X ok _ h.2) (mo_E hC a) (mo_E hC i) (plIx_of h.1.1)
    · cases h
  | .slc a lo hi, Γ, X, ok, ex, h => by
    simp only [mE] at h
    split at h
    · simp only [Bool.and_eq_true] at h
      exact se_slc (sE a Γ X ok _ h.1.1) (sO lo Γ X ok _ h.1.2) (sO hi Γ X ok _ h.2) (mo_E hC a) (mo_O hC lo) (mo_O hC hi)
    · cases h
  | .rev a, Γ, X, ok, ex, h => by
    simp only [mE] at h
    split at h
    · exact se_rev (sE a Γ X ok _ h) (mo_E hC a)
    · cases h
  | .tup es, Γ, X, ok, ex, h => by
    simp only [mE] at h
    split at h
    · exact se_tup (sA es Γ X ok _ h) (mo_A hC es)
    · cases h
  | .lst es, Γ, X, ok, ex, h => by
    simp only [mE] at h
    split at h
    · exact se_lst (sA es Γ X ok _ h) (mo_A hC es)
    · cases h
  | .dic, Γ, X, ok, ex, h => by
    simp only [mE] at h
    split at h
    · exact se_dic
    · cases h
  | .call f es, Γ, X, ok, ex, h => by
    simp only [mE] at h
    split at h
    · simp only [Bool.and_eq_true, decide_eq_true_eq] at h
      obtain ⟨⟨⟨⟨⟨e, g⟩, dbg⟩, s⟩, hn⟩, ha⟩ := h
      subst e
      obtain ⟨ps, hps⟩ := Option.isSome_iff_exists.mp s
      obtain ⟨fa, cl⟩ := ok.cal hps
      have pa := sA es Γ X ok _ ha
      have gl : Gl X f := gl_of (by rw [ok.sc]; exact g)
      rename_i x np es' pos
      cases es' with
      | nil =>
        cases es with
        | nil => simp only [rdE, rdA]; exact se_call0 cl gl (dbg_of dbg)
        | cons e r => simp [mA] at ha
        | star e r => simp [mA] at ha
      | cons e' es' => exact se_call cl (fun xs η Q Q' => hC f xs η Q Q') gl pa (mo_A hC es) hn (dbg_of dbg)
    · cases h
  | .callk f ks es, Γ, X, ok, ex, h => by
    simp only [mE] at h
    split at h
    · simp only [Bool.and_eq_true, decide_eq_true_eq] at h
      obtain ⟨⟨⟨⟨e, g⟩, dbg⟩, s⟩, ha⟩ := h
      subst e
      split at s
      · next ps hps =>
        obtain ⟨fa, cl⟩ := ok.cal hps
        exact se_callk cl (fun xs η Q Q' => hC f xs η Q Q') (gl_of (by rw [ok.sc]; exact g)) (sK es Γ X ok _ ha) (mo_A hC es) s (dbg_of dbg)
      · cases s
    · cases h
  | .isI a T, Γ, X, ok, ex, h => by
    simp only [mE] at h
    split at h
    · simp only [Bool.and_eq_true] at h
      obtain ⟨⟨⟨⟨hT, h1⟩, h2⟩, hn⟩, ha⟩ := h
      obtain ⟨e1, g1, m1⟩ := blB_of ok h1
      obtain ⟨e2, g2, m2⟩ := blB_of ok h2
      exact se_isI hT e1 e2 g1 m1 g2 m2 (sE a Γ X ok _ ha) (mo_E hC a) hn
    · cases h
  | .blt f es, Γ, X, ok, ex, h => by
    simp only [mE] at h
    split at h
    · simp only [Bool.and_eq_true] at h
      obtain ⟨⟨h1, hn⟩, ha⟩ := h
      obtain ⟨e1, g1, m1⟩ := blB_of ok h1
      exact se_blt ok.calm ok.guards ok.units e1 g1 m1 (sA es Γ X ok _ ha) (mo_A hC es) hn
    · cases h
  | .rng tp (.cons e .nil), Γ, X, ok, ex, h => by
    simp only [mE] at h
    split at h
    · simp only [Bool.and_eq_true] at h
      obtain ⟨⟨⟨h1, h2⟩, hn⟩, ha⟩ := h
      obtain ⟨e1, g1, m1⟩ := blB_of ok h1
      obtain ⟨e2, g2, m2⟩ := blB_of ok h2
      simp only [rdE, rdA]
      exact se_rng1 ok.calm e1 e2 g1 m1 g2 m2 (sE e Γ X ok _ ha) (mo_E hC e) hn
    · cases h
  | .rng tp (.cons e (.cons e2 .nil)), Γ, X, ok, ex, h => by
    simp only [mE] at h
    split at h
    · simp only [Bool.and_eq_true] at h
      obtain ⟨⟨⟨⟨⟨h1, h2⟩, hn⟩, hn2⟩, ha⟩, hb⟩ := h
      obtain ⟨e3, g1, m1⟩ := blB_of ok h1
      obtain ⟨e4, g2, m2⟩ := blB_of ok h2
      simp only [rdE, rdA]
      exact se_rng2 ok.calm e3 e4 g1 m1 g2 m2 (sE e Γ X ok _ ha) (sE e2 Γ X ok _ hb) (mo_E hC e) (mo_E hC e2) hn hn2
    · cases h
  | .rng tp .nil, Γ, X, ok, ex, h => by simp only [mE] at h; cases h
  | .rng tp (.star e es), Γ, X, ok, ex, h => by simp only [mE] at h; cases h
  | .rng tp (.cons e (.star e2 es)), Γ, X, ok, ex, h => by simp only [mE] at h; cases h
  | .rng tp (.cons e (.cons e2 (.cons e3 es))), Γ, X, ok, ex, h => by simp only [mE] at h; cases h
  | .rng tp (.cons e (.cons e2 (.star e3 es))), Γ, X, ok, ex, h => by simp only [mE] at h; cases h
  | .mth m a .nil, Γ, X, ok, ex, h => by
    simp only [mE] at h
    split at h
    · simp only [Bool.and_eq_true, decide_eq_true_eq] at h
      obtain ⟨⟨⟨⟨h1, h2⟩, hn⟩, hl⟩, ha⟩ := h
      subst h1
      simp only [rdE, rdA]
      exact se_mth0 h2 (sE a Γ X ok _ ha) (mo_E hC a) hn hl
    · cases h
  | .mth m a (.cons b .nil), Γ, X, ok, ex, h => by
    simp only [mE] at h
    split at h
    · simp only [Bool.and_eq_true, decide_eq_true_eq, Bool.or_eq_true] at h
      obtain ⟨⟨⟨⟨⟨⟨h1, h2⟩, hn⟩, hs⟩, hl⟩, ha⟩, hb⟩ := h
      simp only [rdE, rdA]
      exact se_mth1 (or_assoc.mp h1) h2 (sE a Γ X ok _ ha) (sE b Γ X ok _ hb) (mo_E hC a) (mo_E hC b) hn hs hl
    · cases h
  | .mth m a (.star e es), Γ, X, ok, ex, h => by simp only [mE] at h; cases h
  | .mth m a (.cons b (.cons e es)), Γ, X, ok, ex, h => by simp only [mE] at h; cases h
  | .mth m a (.cons b (.star e es)), Γ, X, ok, ex, h => by simp only [mE] at h; cases h
  | .lc elt t it ifs own, Γ, X, ok, ex, h => by
    simp only [mE] at h
    split at h
    · simp only [Bool.and_eq_true, decide_eq_true_eq, Bool.not_eq_true'] at h
      obtain ⟨⟨⟨⟨⟨⟨⟨h0, h1⟩, h2⟩, h3⟩, h4⟩, h5⟩, h6⟩, h7⟩ := h
      subst h0
      have bk : BlkOk X.N X.env.scope _ _ := blkOk_by (by rw [ok.N, ok.sc]; exact h1)
      have hv : ∀ i ∈ tgSl t, i ∈ (own.map fun i => (Γ.N.getD i (Str.ofString ""), i)).map (·.2) := fun i hi => by
        rw [own_snd]
        have := List.all_eq_true.mp h2 i hi
        simpa using this
      have q := se_lc (pos := ‹Pos›) (te := rdE C Γ.G elt) (tt := rdTs C Γ.G ifs) (g := rdG C Γ.G t) (ti := rdI C Γ.G it) ok.calm ok.nd (sI it Γ X ok _ _ h4) bk
        (fun s H a cl fp => sG t (Γ.sub _) _ (ok.blk bk.kind s H a cl fp) _ _ hv h5) (fun s H a cl fp => sTs ifs (Γ.sub _) _ (ok.blk bk.kind s H a cl fp) _ h6) (fun s H a cl fp => sE elt (Γ.sub _) _ (ok.blk bk.kind s H a cl fp) _ h7)
        (mo_I hC it) (mo_G hC t) (mo_Ts hC ifs) (mo_E hC elt) h3
      rw [own_snd] at q
      exact q
    · cases h
theorem sT : ∀ (e : E) (Γ : Ctx) (X : Cx) (ok : OkX Γ C X) (ex : Expr), mE Γ e ex = true → PT X ex (upT X.K (rdT C Γ.G e))
  | .var i, Γ, X, ok, ex, h => by
    have h' := h
    simp only [mE] at h
    split at h
    · exact st_val (ta := rdE C Γ.G (.var i)) (sE (.var i) Γ X ok _ h') (fun δ η Q q => by
        simp only [rdT] at q
        simp only [rdE]
        obtain ⟨b, e, q⟩ := q
        exact ⟨_, e, b, rfl, q⟩) (mo_E hC _) (fun _ => rfl)
    · cases h
  | .bl i, Γ, X, ok, ex, h => by
    have h' := h
    simp only [mE] at h
    split at h
    · exact st_val (ta := rdE C Γ.G (.bl i)) (sE (.bl i) Γ X ok _ h') (fun δ η Q q => by
        simp only [rdT] at q
        simp only [rdE]
        exact ⟨i, rfl, q⟩) (mo_E hC _) (fun _ => rfl)
    · cases h
  | .cmp o a b, Γ, X, ok, ex, h => by
    simp only [mE] at h
    split at h
    · simp only [Bool.and_eq_true, decide_eq_true_eq, Bool.not_eq_true'] at h
      obtain ⟨⟨⟨e, hm⟩, h1⟩, h2⟩ := h
      subst e
      exact st_cmp ok.units (sE a Γ X ok _ h1) (sE b Γ X ok _ h2) (mo_E hC a) (mo_E hC b) hm
    · cases h
  | .chn o p a b c, Γ, X, ok, ex, h => by
    simp only [mE] at h
    split at h
    · simp only [Bool.and_eq_true, decide_eq_true_eq, Bool.not_eq_true'] at h
      obtain ⟨⟨⟨⟨⟨e, e2⟩, hm⟩, h1⟩, h2⟩, h3⟩ := h
      subst e e2
      exact st_chn ok.units (sE a Γ X ok _ h1) (sE b Γ X ok _ h2) (sE c Γ X ok _ h3) (mo_E hC a) (mo_E hC b) (mo_E hC c) hm
    · cases h
  | .and a b, Γ, X, ok, ex, h => by
    simp only [mE] at h
    split at h
    · simp only [Bool.and_eq_true] at h
      obtain ⟨h1, h2⟩ := h
      split at h2
      · exact (sw_andC (sT a Γ X ok _ h1) (pw_and1 (sT b Γ X ok _ h2)) (mo_T hC a) (mo_T hC b)).pt
      · exact (sw_andC (sT a Γ X ok _ h1) (sW b Γ X ok _ _ _ h2) (mo_T hC a) (mo_T hC b)).pt
    · cases h
  | .or a b, Γ, X, ok, ex, h => by
    simp only [mE] at h
    split at h
    · simp only [Bool.and_eq_true] at h
      obtain ⟨h1, h2⟩ := h
      split at h2
      · exact (sw_orC (sT a Γ X ok _ h1) (pw_or1 (sT b Γ X ok _ h2)) (mo_T hC a) (mo_T hC b)).pt
      · exact (sw_orC (sT a Γ X ok _ h1) (sW b Γ X ok _ _ _ h2) (mo_T hC a) (mo_T hC b)).pt
    · cases h
  | .not a, Γ, X, ok, ex, h => by
    simp only [mE] at h
    split at h
    · exact st_not (sT a Γ X ok _ h) (mo_T hC a)
    · cases h
  | .call f es, Γ, X, ok, ex, h => by
    have h' := h
    simp only [mE] at h
    split at h
    · exact st_val (ta := rdE C Γ.G (.call f es)) (sE (.call f es) Γ X ok _ h') (fun δ η Q q => by
        simp only [rdT] at q
        simp only [rdE]
        exact q) (mo_E hC _) (fun _ => rfl)
    · cases h
  | .isI a T, Γ, X, ok, ex, h => by
    have h' := h
    simp only [mE] at h
    split at h
    · exact st_val (ta := rdE C Γ.G (.isI a T)) (sE (.isI a T) Γ X ok _ h') (fun δ η Q q => by
        simp only [rdT] at q
        simp only [rdE]
        exact mo_E hC a _ _ _ _ (fun x η1 ⟨c, h1, h2⟩ => ⟨c, h1, _, rfl, h2⟩) q) (mo_E hC _) (fun _ => rfl)
    · cases h
  | .blt f es, Γ, X, ok, ex, h => by
    have h' := h
    simp only [mE] at h
    split at h
    · exact st_val (ta := rdE C Γ.G (.blt f es)) (sE (.blt f es) Γ X ok _ h') (fun δ η Q q => by
        simp only [rdT] at q
        simp only [rdE]
        exact mo_A hC es _ _ _ _ (fun x η1 h => bltD_mono (fun d η ⟨b, η3, h1, h2, h3⟩ => ⟨η3, h2, b, h1, h3⟩) h) q) (mo_E hC _) (fun _ => rfl)
    · cases h
  | .int _, Γ, X, ok, ex, h | .str _, Γ, X, ok, ex, h | .non, Γ, X, ok, ex, h | .glo _, Γ, X, ok, ex, h | .bin _ _ _, Γ, X, ok, ex, h | .neg _, Γ, X, ok, ex, h | .ife _ _ _, Γ, X, ok, ex, h | .idx _ _, Γ, X, ok, ex, h
  | .slc _ _ _, Γ, X, ok, ex, h | .rev _, Γ, X, ok, ex, h | .tup _, Γ, X, ok, ex, h | .lst _, Γ, X, ok, ex, h | .dic, Γ, X, ok, ex, h | .callk _ _ _, Γ, X, ok, ex, h | .rng _ _, Γ, X, ok, ex, h | .mth _ _ _, Γ, X, ok, ex, h | .lc _ _ _ _ _, Γ, X, ok, ex, h =>
    ⟨fun pins s σ H Q I q => by
      obtain ⟨δ, η, sl, ab, q⟩ := q
      simp only [rdT] at q⟩
theorem sW : ∀ (e : E) (Γ : Ctx) (X : Cx) (ok : OkX Γ C X) (o : BoolOp) (es : List Expr) (pos : Pos), mE Γ e (.BoolOp o es pos) = true → PW X (.BoolOp o es pos) (upT X.K (rdT C Γ.G e))
  | .and a b, Γ, X, ok, o, es, pos, h => by
    simp only [mE] at h
    split at h
    · next e =>
      cases e
      simp only [Bool.and_eq_true] at h
      obtain ⟨h1, h2⟩ := h
      split at h2
      · exact sw_andC (sT a Γ X ok _ h1) (pw_and1 (sT b Γ X ok _ h2)) (mo_T hC a) (mo_T hC b)
      · exact sw_andC (sT a Γ X ok _ h1) (sW b Γ X ok _ _ _ h2) (mo_T hC a) (mo_T hC b)
    · cases h
  | .or a b, Γ, X, ok, o, es, pos, h => by
    simp only [mE] at h
    split at h
    · next e =>
      cases e
      simp only [Bool.and_eq_true] at h
      obtain ⟨h1, h2⟩ := h
      split at h2
      · exact sw_orC (sT a Γ X ok _ h1) (pw_or1 (sT b Γ X ok _ h2)) (mo_T hC a) (mo_T hC b)
      · exact sw_orC (sT a Γ X ok _ h1) (sW b Γ X ok _ _ _ h2) (mo_T hC a) (mo_T hC b)
    · cases h
  | .var _, Γ, X, ok, o, es, pos, h => by simp [mE] at h
  | .int _, Γ, X, ok, o, es, pos, h => by simp [mE] at h
  | .str _, Γ, X, ok, o, es, pos, h => by simp [mE] at h
  | .bl _, Γ, X, ok, o, es, pos, h => by simp [mE] at h
  | .non, Γ, X, ok, o, es, pos, h => by simp [mE] at h
  | .glo _, Γ, X, ok, o, es, pos, h => by simp [mE] at h
  | .bin _ _ _, Γ, X, ok, o, es, pos, h => by simp [mE] at h
  | .neg _, Γ, X, ok, o, es, pos, h => by simp [mE] at h
  | .cmp _ _ _, Γ, X, ok, o, es, pos, h => by simp [mE] at h
  | .chn _ _ _ _ _, Γ, X, ok, o, es, pos, h => by simp [mE] at h
  | .not _, Γ, X, ok, o, es, pos, h => by simp [mE] at h
  | .ife _ _ _, Γ, X, ok, o, es, pos, h => by simp [mE] at h
  | .idx _ _, Γ, X, ok, o, es, pos, h => by simp [mE] at h
  | .slc _ _ _, Γ, X, ok, o, es, pos, h => by simp [mE] at h
  | .rev _, Γ, X, ok, o, es, pos, h => by simp [mE] at h
  | .tup _, Γ, X, ok, o, es, pos, h => by simp [mE] at h
  | .lst _, Γ, X, ok, o, es, pos, h => by simp [mE] at h
  | .dic, Γ, X, ok, o, es, pos, h => by simp [mE] at h
  | .call _ _, Γ, X, ok, o, es, pos, h => by simp [mE] at h
  | .callk _ _ _, Γ, X, ok, o, es, pos, h => by simp [mE] at h
  | .isI _ _, Γ, X, ok, o, es, pos, h => by simp [mE] at h
  | .blt _ _, Γ, X, ok, o, es, pos, h => by simp [mE] at h
  | .lc _ _ _ _ _, Γ, X, ok, o, es, pos, h => by simp [mE] at h
  | .rng _ .nil, Γ, X, ok, o, es, pos, h => by simp [mE] at h
  | .rng _ (.star _ _), Γ, X, ok, o, es, pos, h => by simp [mE] at h
  | .rng _ (.cons _ .nil), Γ, X, ok, o, es, pos, h => by simp [mE] at h
  | .rng _ (.cons _ (.star _ _)), Γ, X, ok, o, es, pos, h => by simp [mE] at h
  | .rng _ (.cons _ (.cons _ .nil)), Γ, X, ok, o, es, pos, h => by simp [mE] at h
  | .rng _ (.cons _ (.cons _ (.cons _ _))), Γ, X, ok, o, es, pos, h => by simp [mE] at h
  | .rng _ (.cons _ (.cons _ (.star _ _))), Γ, X, ok, o, es, pos, h => by simp [mE] at h
  | .mth _ _ .nil, Γ, X, ok, o, es, pos, h => by simp [mE] at h
  | .mth _ _ (.star _ _), Γ, X, ok, o, es, pos, h => by simp [mE] at h
  | .mth _ _ (.cons _ .nil), Γ, X, ok, o, es, pos, h => by simp [mE] at h
  | .mth _ _ (.cons _ (.cons _ _)), Γ, X, ok, o, es, pos, h => by simp [mE] at h
  | .mth _ _ (.cons _ (.star _ _)), Γ, X, ok, o, es, pos, h => by simp [mE] at h
theorem sA : ∀ (e : Es) (Γ : Ctx) (X : Cx) (ok : OkX Γ C X) (ex : List Expr), mA Γ e ex = true → PA X ex (upA X.K (rdA C Γ.G e))
  | .nil, Γ, X, ok, ex, h => by
    simp only [mA] at h
    split at h
    · exact sa_nil
    · cases h
  | .cons e r, Γ, X, ok, ex, h => by
    simp only [mA] at h
    split at h
    · simp only [Bool.and_eq_true] at h
      exact sa_cons (sE e Γ X ok _ h.1.2) (sA r Γ X ok _ h.2) (mo_E hC e) (mo_A hC r) h.1.1
    · cases h
  | .star e r, Γ, X, ok, ex, h => by
    simp only [mA] at h
    split at h
    · simp only [Bool.and_eq_true] at h
      exact sa_star (sE e Γ X ok _ h.1) (sA r Γ X ok _ h.2) (mo_E hC e) (mo_A hC r)
    · cases h
theorem sK : ∀ (e : Es) (Γ : Ctx) (X : Cx) (ok : OkX Γ C X) (ex : List Keyword), mK Γ e ex = true → PK X ex (upA X.K (rdA C Γ.G e))
  | .nil, Γ, X, ok, ex, h => by
    simp only [mK] at h
    split at h
    · exact sk_nil
    · cases h
  | .cons e r, Γ, X, ok, ex, h => by
    simp only [mK] at h
    split at h
    · simp only [Bool.and_eq_true] at h
      exact sk_cons (sE e Γ X ok _ h.1) (sK r Γ X ok _ h.2) (mo_E hC e) (mo_A hC r)
    · cases h
  | .star e r, Γ, X, ok, ex, h => by simp only [mK] at h; cases h
theorem sTs : ∀ (e : Es) (Γ : Ctx) (X : Cx) (ok : OkX Γ C X) (ex : List Expr), mTs Γ e ex = true → PTs X ex (upT X.K (rdTs C Γ.G e))
  | .nil, Γ, X, ok, ex, h => by
    simp only [mTs] at h
    split at h
    · exact sts_nil
    · cases h
  | .cons e .nil, Γ, X, ok, ex, h => by
    simp only [mTs] at h
    split at h
    · exact pts_one (sT e Γ X ok _ h)
    · cases h
  | .cons e (.cons _ _), Γ, X, ok, ex, h => by simp only [mTs] at h; cases h
  | .cons e (.star _ _), Γ, X, ok, ex, h => by simp only [mTs] at h; cases h
  | .star e r, Γ, X, ok, ex, h => by simp only [mTs] at h; cases h
theorem sO : ∀ (e : Oe) (Γ : Ctx) (X : Cx) (ok : OkX Γ C X) (ex : Option Expr), mO Γ e ex = true → PO X ex (upO X.K (rdO C Γ.G e))
  | .no, Γ, X, ok, ex, h => by
    simp only [mO] at h
    split at h
    · exact so_none
    · cases h
  | .yes e, Γ, X, ok, ex, h => by
    simp only [mO] at h
    split at h
    · exact so_some (sE e Γ X ok _ h) (mo_E hC e)
    · cases h
theorem sI : ∀ (e : I) (Γ : Ctx) (X : Cx) (ok : OkX Γ C X) (tg ex : Expr), mI Γ e tg ex = true → PI X tg ex (upI X.K (rdI C Γ.G e))
  | .of e, Γ, X, ok, tg, ex, h => by
    simp only [mI] at h
    exact si_of (sE e Γ X ok _ h) (mo_E hC e)
  | .rng (.cons e .nil), Γ, X, ok, tg, ex, h => by
    simp only [mI] at h
    split at h
    · simp only [Bool.and_eq_true] at h
      obtain ⟨⟨h2, hn⟩, ha⟩ := h
      obtain ⟨e2, g2, m2⟩ := blB_of ok h2
      simp only [rdI, rdA]
      exact si_rng1 e2 g2 m2 (sE e Γ X ok _ ha) (mo_E hC e) hn
    · cases h
  | .rng (.cons e (.cons e2 .nil)), Γ, X, ok, tg, ex, h => by
    simp only [mI] at h
    split at h
    · simp only [Bool.and_eq_true] at h
      obtain ⟨⟨⟨⟨h2, hn⟩, hn2⟩, ha⟩, hb⟩ := h
      obtain ⟨e3, g2, m2⟩ := blB_of ok h2
      simp only [rdI, rdA]
      exact si_rng2 e3 g2 m2 (sE e Γ X ok _ ha) (sE e2 Γ X ok _ hb) (mo_E hC e) (mo_E hC e2) hn hn2
    · cases h
  | .zip (.cons e (.cons e2 .nil)), Γ, X, ok, tg, ex, h => by
    simp only [mI] at h
    split at h
    · simp only [Bool.and_eq_true] at h
      obtain ⟨⟨⟨⟨⟨ht, h2⟩, hn⟩, hn2⟩, ha⟩, hb⟩ := h
      obtain ⟨e3, g2, m2⟩ := blB_of ok h2
      simp only [rdI, rdA]
      exact si_zip2 ok.calm ht e3 g2 m2 (sE e Γ X ok _ ha) (sE e2 Γ X ok _ hb) (mo_E hC e) (mo_E hC e2) hn hn2
    · cases h
  | .zip (.cons e (.cons e2 (.cons e3 .nil))), Γ, X, ok, tg, ex, h => by
    simp only [mI] at h
    split at h
    · simp only [Bool.and_eq_true] at h
      obtain ⟨⟨⟨⟨⟨⟨⟨ht, h2⟩, hn⟩, hn2⟩, hn3⟩, ha⟩, hb⟩, hc⟩ := h
      obtain ⟨e4, g2, m2⟩ := blB_of ok h2
      simp only [rdI, rdA]
      exact si_zip3 ok.calm ht e4 g2 m2 (sE e Γ X ok _ ha) (sE e2 Γ X ok _ hb) (sE e3 Γ X ok _ hc) (mo_E hC e) (mo_E hC e2) (mo_E hC e3) hn hn2 hn3
    · cases h
  | .enm (.of e), Γ, X, ok, tg, ex, h => by
    simp only [mI] at h
    split at h
    · simp only [Bool.and_eq_true] at h
      obtain ⟨⟨⟨ht, h2⟩, hn⟩, ha⟩ := h
      obtain ⟨e3, g2, m2⟩ := blB_of ok h2
      simp only [rdI]
      exact si_enm ok.calm ht e3 g2 m2 (sE e Γ X ok _ ha) (mo_E hC e) hn
    · cases h
  | .enm (.zip (.cons e (.cons e2 .nil))), Γ, X, ok, tg, ex, h => by
    simp only [mI] at h
    split at h
    · simp only [Bool.and_eq_true] at h
      obtain ⟨⟨⟨⟨⟨⟨ht, h1⟩, h2⟩, hn⟩, hn2⟩, ha⟩, hb⟩ := h
      obtain ⟨e0, g0, m0⟩ := blB_of ok h1
      obtain ⟨e3, g2, m2⟩ := blB_of ok h2
      simp only [rdI, rdA]
      exact si_ez2 ok.calm ht e0 g0 m0 e3 g2 m2 (sE e Γ X ok _ ha) (sE e2 Γ X ok _ hb) (mo_E hC e) (mo_E hC e2) hn hn2
    · cases h
  | .enm (.zip (.cons e (.cons e2 (.cons e3 .nil)))), Γ, X, ok, tg, ex, h => by
    simp only [mI] at h
    split at h
    · simp only [Bool.and_eq_true] at h
      obtain ⟨⟨⟨⟨⟨⟨⟨⟨ht, h1⟩, h2⟩, hn⟩, hn2⟩, hn3⟩, ha⟩, hb⟩, hc⟩ := h
      obtain ⟨e0, g0, m0⟩ := blB_of ok h1
      obtain ⟨e4, g2, m2⟩ := blB_of ok h2
      simp only [rdI, rdA]
      exact si_ez3 ok.calm ht e0 g0 m0 e4 g2 m2 (sE e Γ X ok _ ha) (sE e2 Γ X ok _ hb) (sE e3 Γ X ok _ hc) (mo_E hC e) (mo_E hC e2) (mo_E hC e3) hn hn2 hn3
    · cases h
  | .rng .nil, Γ, X, ok, tg, ex, h | .rng (.star _ _), Γ, X, ok, tg, ex, h | .rng (.cons _ (.star _ _)), Γ, X, ok, tg, ex, h | .rng (.cons _ (.cons _ (.cons _ _))), Γ, X, ok, tg, ex, h | .rng (.cons _ (.cons _ (.star _ _))), Γ, X, ok, tg, ex, h => by simp only [mI] at h; cases h
  | .zip .nil, Γ, X, ok, tg, ex, h | .zip (.star _ _), Γ, X, ok, tg, ex, h | .zip (.cons _ .nil), Γ, X, ok, tg, ex, h | .zip (.cons _ (.star _ _)), Γ, X, ok, tg, ex, h | .zip (.cons _ (.cons _ (.star _ _))), Γ, X, ok, tg, ex, h | .zip (.cons _ (.cons _ (.cons _ (.cons _ _)))), Γ, X, ok, tg, ex, h | .zip (.cons _ (.cons _ (.cons _ (.star _ _)))), Γ, X, ok, tg, ex, h => by simp only [mI] at h; cases h
  | .enm (.rng _), Γ, X, ok, tg, ex, h | .enm (.enm _), Γ, X, ok, tg, ex, h => by simp only [mI] at h; cases h
  | .enm (.zip .nil), Γ, X, ok, tg, ex, h | .enm (.zip (.star _ _)), Γ, X, ok, tg, ex, h | .enm (.zip (.cons _ .nil)), Γ, X, ok, tg, ex, h | .enm (.zip (.cons _ (.star _ _))), Γ, X, ok, tg, ex, h | .enm (.zip (.cons _ (.cons _ (.star _ _)))), Γ, X, ok, tg, ex, h | .enm (.zip (.cons _ (.cons _ (.cons _ (.cons _ _))))), Γ, X, ok, tg, ex, h | .enm (.zip (.cons _ (.cons _ (.cons _ (.star _ _))))), Γ, X, ok, tg, ex, h => by simp only [mI] at h; cases h
theorem sG : ∀ (t : Tg) (Γ : Ctx) (X : Cx) (ok : OkX Γ C X) (ex : Expr) (vs : List Nat), (∀ i ∈ tgSl t, i ∈ vs) → mG Γ t ex = true → PG X ex (upW X.K vs (rdG C Γ.G t))
  | .name i, Γ, X, ok, ex, vs, hv, h => by
    simp only [mG] at h
    split at h
    · simp only [Bool.and_eq_true, decide_eq_true_eq] at h
      obtain ⟨h1, h2⟩ := tgt_of ok h.2
      exact sg_name ok.nd (by rw [ok.N]; exact h.1) h1 h2 (hv i (by simp [tgSl]))
    · cases h
  | .tup ts, Γ, X, ok, ex, vs, hv, h => by
    simp only [mG] at h
    split at h
    · simp only [Bool.and_eq_true] at h
      exact sg_tup ok.calm (sGs ts Γ X ok _ vs (fun i hi => hv i (by simpa [tgSl] using hi)) h.2) (mo_Gs hC ts) h.1 (mGs_len h.2)
    · cases h
  | .sub a i, Γ, X, ok, ex, vs, hv, h => by
    simp only [mG] at h
    split at h
    · simp only [Bool.and_eq_true] at h
      exact sg_sub (sE a Γ X ok _ h.1.2) (sE i Γ X ok _ h.2) (mo_E hC a) (mo_E hC i) (plIx_ne h.1.1)
    · cases h
theorem sGs : ∀ (t : Tgs) (Γ : Ctx) (X : Cx) (ok : OkX Γ C X) (ex : List Expr) (vs : List Nat), (∀ i ∈ tgSls t, i ∈ vs) → mGs Γ t ex = true → PGs X ex (upWs X.K vs (rdGs C Γ.G t))
  | .nil, Γ, X, ok, ex, vs, hv, h => by
    simp only [mGs] at h
    split at h
    · exact sgs_nil
    · cases h
  | .cons t ts, Γ, X, ok, ex, vs, hv, h => by
    simp only [mGs] at h
    split at h
    · simp only [Bool.and_eq_true] at h
      exact sgs_cons (sG t Γ X ok _ vs (fun i hi => hv i (by simp [tgSls, hi])) h.1.2) (sGs ts Γ X ok _ vs (fun i hi => hv i (by simp [tgSls, hi])) h.2) (mo_G hC t) (mo_Gs hC ts) h.1.1
    · cases h
end
mutual
theorem sS : ∀ (s : S) (Γ : Ctx) (X : Cx) (ok : OkX Γ C X) (st : Stmt), mS Γ s st = true → PS X st (upS X.K (rdS C Γ.G s))
  | .asg t e, Γ, X, ok, st, h => by
    simp only [mS] at h
    split at h
    · simp only [Bool.and_eq_true, Bool.not_eq_true'] at h
      obtain ⟨⟨⟨⟨h1, h2⟩, h3⟩, h4⟩, h5⟩ := h
      exact ss_asg (sE hC e Γ X ok _ h5) (sG hC t Γ X ok _ (tgSl t) (fun _ h => h) h4) (mo_E hC e) (mo_G hC t) h2 (by rw [ok.sc]; exact h3) h1
    · cases h
  | .par i j a b, Γ, X, ok, st, h => by
    simp only [mS] at h
    split at h
    · simp only [Bool.and_eq_true, decide_eq_true_eq] at h
      obtain ⟨⟨⟨⟨⟨h1, h2⟩, h3⟩, h4⟩, h5⟩, h6⟩ := h
      exact ss_par ok.calm ok.nd (by rw [ok.N]; exact h1) (by rw [ok.N]; exact h2) h3 ok.kind (by rw [ok.sc]; exact h4) (sE hC a Γ X ok _ h5) (sE hC b Γ X ok _ h6) (mo_E hC a) (mo_E hC b)
    · cases h
  | .ex e, Γ, X, ok, st, h => by
    simp only [mS] at h
    split at h
    · simp only [Bool.and_eq_true, Bool.not_eq_true'] at h
      exact ss_ex (sE hC e Γ X ok _ h.2) (mo_E hC e) h.1
    · cases h
  | .ret e, Γ, X, ok, st, h => by
    simp only [mS] at h
    split at h
    · exact ss_ret (sE hC e Γ X ok _ h)
    · cases h
  | .retN, Γ, X, ok, st, h => by
    simp only [mS] at h
    split at h
    · exact ss_retN
    · cases h
  | .ife c a b, Γ, X, ok, st, h => by
    simp only [mS] at h
    split at h
    · simp only [Bool.and_eq_true] at h
      exact ss_if (sT hC c Γ X ok _ h.1.1) (sSs a Γ X ok _ h.1.2) (sSs b Γ X ok _ h.2) (mo_T hC c) (mo_Ss hC a) (mo_Ss hC b)
    · cases h
  | .for_ t i b, Γ, X, ok, st, h => by
    simp only [mS] at h
    split at h
    · simp only [Bool.and_eq_true, Bool.not_eq_true'] at h
      obtain ⟨⟨⟨⟨h1, h2⟩, h3⟩, h4⟩, h5⟩ := h
      exact ss_for (ok.pass h1) ok.calm (sI hC i Γ X ok _ _ h3) (sG hC t Γ X ok _ (tgSl t) (fun _ h => h) h4) (sSs b Γ X ok _ h5) (mo_I hC i) (mo_G hC t) (mo_Ss hC b) h2
    · cases h
  | .whl c b, Γ, X, ok, st, h => by
    simp only [mS] at h
    split at h
    · simp only [Bool.and_eq_true] at h
      exact ss_while (ok.pass h.1.1) (sT hC c Γ X ok _ h.1.2) (sSs b Γ X ok _ h.2) (mo_T hC c) (mo_Ss hC b)
    · cases h
  | .never, Γ, X, ok, st, h => ss_never
  | .pass, Γ, X, ok, st, h => by
    simp only [mS] at h
    split at h
    · exact ss_pass
    · exact ss_doc
    · cases h
  | .brk, Γ, X, ok, st, h => by
    simp only [mS] at h
    split at h
    · exact ss_brk
    · cases h
  | .cont, Γ, X, ok, st, h => by
    simp only [mS] at h
    split at h
    · exact ss_cont
    · cases h
theorem sSs : ∀ (s : Ss) (Γ : Ctx) (X : Cx) (ok : OkX Γ C X) (st : List Stmt), mSs Γ s st = true → PSs X st (upS X.K (rdSs C Γ.G s))
  | .nil, Γ, X, ok, st, h => by
    simp only [mSs] at h
    split at h
    · exact sss_nil
    · cases h
  | .cons s ss, Γ, X, ok, st, h => by
    simp only [mSs] at h
    split at h
    · simp only [Bool.and_eq_true] at h
      have q := sss_cons (t := rdS C Γ.G s) (u := rdSs C Γ.G ss) (sS s Γ X ok _ h.1) (sSs ss Γ X ok _ h.2) (mo_S hC s) (mo_Ss hC ss)
      simp only [rdSs]
      exact q
    · cases h
end
end
end DL

set_option Elab.async false
set_option linter.all false
set_option maxRecDepth 100000
set_option maxHeartbeats 4000000
/-! DL12: the defs of a module call one another: by depth. -/
namespace DL
open PySem PySem.Spec PyProof.Rows L2
/-- a def of the module with its own syntax tree -/
structure Fd where
  name : Str
  ps : List Str
  N : List Str
  args : Arguments
  body : List Stmt
  sc : Scope
  own : Ss
def tabOf (fds : List Fd) (free : List Str) (con : List (Str × D)) : Tab := ⟨fds.map fun d => (d.name, d.ps), free, con⟩
def dStart (d : Fd) (args : List D) : DSt := args.map some ++ List.replicate (d.N.length - args.length) none
def retE (Q : DK) : DEnds := { nx := fun _ η => ∃ η2, Sub η2 η ∧ Q .non η2, rt := fun v η => ∃ η2, Sub η2 η ∧ Q v η2 }
/-- what a call asks, at most n calls deep -/
def rdC (fds : List Fd) (G : Str → Option D) : Nat → Calls
  | 0 => fun _ _ _ _ => False
  | n + 1 => fun f args η Q => ∃ d, fds.find? (fun d => d.name == f) = some d ∧ args.length = d.ps.length ∧ rdSs (rdC fds G n) G d.own (retE Q) (dStart d args) η
theorem retE_le {Q Q' : DK} (q : LeD Q Q') : LeN (retE Q) (retE Q') := ⟨fun _ _ ⟨η2, s, h⟩ => ⟨η2, s, q _ _ h⟩, fun _ _ ⟨η2, s, h⟩ => ⟨η2, s, q _ _ h⟩, fun _ _ h => h, fun _ _ h => h⟩
theorem rdC_mono {fds : List Fd} {G : Str → Option D} : ∀ n, MoC (rdC fds G n)
  | 0 => fun _ _ _ _ _ _ h => h
  | n + 1 => fun f xs η Q Q' q ⟨d, h1, h2, h3⟩ => ⟨d, h1, h2, mo_Ss (rdC_mono n) d.own _ _ _ _ (retE_le q) h3⟩
/-- a def's promise to callers that guard as this one does -/
def FnG (P : Program) (w : World) (K : PySem.W.Frag) (mg : Str → Option Value) (base : Heap) (k : Nat) (f : Addr) (fd : FuncData) (ps : List Str) (p : List D → Sto → DK → Prop) : Prop :=
  ∀ (A : Around) (outer : List Env) (s : Shared) (H : Hp) (args : Args) (us : List Value) (vs : List V) (Q : VK), A.guards = some [] → Room k A → Env0 P w K mg base A outer s H → BindsTo s fd args (ps.zip us) → Vals vs us → upC K p vs H Q →
    codeAny (model P w) A (.call (.ref f) args) (CR CX0 outer P w H s Q E0) s
structure FdOk (T : Tab) (K : PySem.W.Frag) (mg : Str → Option Value) (d : Fd) (f : Addr) (fd : FuncData) : Prop where
  fn : FunD K d.name d.name d.args d.body d.sc [] [] f fd
  at_ : mg d.name = some (.ref f)
  sc : FnScope d.N d.ps d.sc
  bp : ∀ (s : Shared) (us : List Value), us.length = d.ps.length → BindsTo s fd ⟨us, []⟩ (d.ps.zip us)
  bk : ∀ (s : Shared) (us : List Value), us.length = d.ps.length → BindsTo s fd ⟨[], d.ps.zip us⟩ (d.ps.zip us)
  chk : mSs ⟨T, d.N, d.sc, true⟩ d.own d.body = true
theorem start_len {N ps : List Str} {sc : Scope} (S : FnScope N ps sc) : ps.length ≤ N.length := by
  have q := congrArg List.length S.pre
  rw [List.length_take] at q
  omega
theorem start_sl {K : PySem.W.Frag} {H : Hp} {vs : List V} {ds : List D} (is : IsDs K H vs ds) (d : Fd) : Sl K H (L2.start d.N vs) (dStart d ds) := by
  unfold L2.start dStart
  rw [is.length]
  refine ⟨by simp [is.length], fun i x e => ?_⟩
  by_cases hi : i < ds.length
  · rw [List.getElem?_append_left (by simpa using hi), List.getElem?_map] at e
    cases q : ds[i]? with
    | none => rw [q] at e; cases e
    | some y =>
      rw [q] at e
      cases e
      obtain ⟨v, hv, iv⟩ := is.get q
      refine ⟨v, ?_, iv⟩
      rw [List.getElem?_append_left (by simpa [is.length] using hi), List.getElem?_map, hv]; rfl
  · rw [List.getElem?_append_right (by simpa using hi), List.getElem?_replicate] at e
    split at e <;> cases e
section
variable {P : Program} {w : World} {K : PySem.W.Frag} {mg : Str → Option Value} {base : Heap}
/-- a def by its body, where what it calls stands -/
theorem fnG_of {T : Tab} {C : Calls} (hC : MoC C) {G : Str → Option D} {d : Fd} {f : Addr} {fd : FuncData} {k : Nat} (F : FdOk T K mg d f fd) (hG : G = fun x => T.con.lookup x)
    (prim : ∀ A : Around, A.guards = some [] → Room k A → Prim T C P w K mg base A) :
    FnG P w K mg base (k + 1) f fd d.ps fun args η Q => args.length = d.ps.length ∧ rdSs C G d.own (retE Q) (dStart d args) η := by
  subst hG
  obtain ⟨oc, od, dV, kV, doc, pm, an, cdv, ct, osl, rfl, lk, hcd, _, _⟩ := F.fn.ex
  intro A outer s H args us vs Q gd hr e0 hb r hsp
  obtain ⟨ds, η, is, ab, hlen, hrd⟩ := hsp
  have S := F.sc
  have hl : vs.length = d.ps.length := by rw [is.length]; exact hlen
  have KX : K.In s.heap := e0.mod.kin.keeps fun b o e => (e0.bs b o e).1
  have lim : s.heap.NoLimit := e0.mod.nolimit.keeps fun b o e => (e0.bs b o e).1
  have kinds : ∀ y ∈ d.ps.zip us, d.sc.names.lookup y.1 = some .local ∨ (d.sc.names.lookup y.1 = some .cell ∧ ((cellsFrom (s.heap.objs.size + 1) d.sc.names []).lookup y.1).isSome = true) := by
    rintro ⟨n, v⟩ hy
    rcases S.par n (List.of_mem_zip hy).1 with q | q
    · exact .inl q
    · exact .inr ⟨q, PySem.W.cellsFrom_some _ _ _ (.inl q)⟩
  refine codeAny_call_function hr.depth (KX _ _ lk) rfl S.co S.gen rfl (PySem.W.codeRec_of KX hcd) (hb _ _ _ _ ?_)
  refine wpAny_newFunctionEnv_cells S.kind kinds fun env he s1 x => ?_
  subst he
  refine ⟨lim.keeps x.toInCall.keep, codeAny_func ?_⟩
  have hr' := hr.deeper (envOfC d.name d.sc s.heap.objs.size f cdv)
  have gd' : (A.deeper (envOfC d.name d.sc s.heap.objs.size f cdv)).guards = some [] := gd
  have I : Inv (cxOf CX0 P w K mg base d.N d.name d.sc f cdv A outer s H E0) [] (L2.start d.N vs) H s1 := inv_start S hr.hd e0 hl r x
  have okx : OkX ⟨T, d.N, d.sc, true⟩ C (cxOf CX0 P w K mg base d.N d.name d.sc f cdv A outer s H E0).nox :=
    ⟨rfl, S.nd, rfl, S.kind, rfl, gd', by have := hr'.un; show (A.deeper _).units + 100 < cLine; omega, fun _ => PassesOwn.never, fun _ _ => rfl, prim _ gd' hr'⟩
  have body := (sSs hC d.own _ _ okx d.body F.chk).nox
  have start0 : upS K (rdSs C (fun x => T.con.lookup x) d.own) { nx := fun _ H' => Q .non H', rt := Q } (L2.start d.N vs) H := by
    refine ⟨dStart d ds, η, start_sl is d, ab, mo_Ss hC d.own _ _ _ _ ⟨?_, ?_, ?_, ?_⟩ hrd⟩
    · exact fun δ1 η1 ⟨η2, sb, q⟩ σ' H' t a sl => q .non H' t (a.sub sb) .non
    · exact fun d1 η1 ⟨η2, sb, q⟩ u H' t a i => q u H' t (a.sub sb) i
    · exact fun _ _ h => h.elim
    · exact fun _ _ h => h.elim
  refine wpAny_mono (body.run [] s1 (L2.start d.N vs) H _ I start0) (fun fl s' hs => ?_) fun e s' hs => hs
  cases fl with
  | ret u =>
    obtain ⟨v, σ', H', J, rv, q⟩ := hs
    exact ⟨v, H', J.os, J.bare, J.base, J.hok, rv, q⟩
  | next =>
    obtain ⟨σ', H', J, q⟩ := hs
    exact ⟨V.non, H', J.os, J.bare, J.base, J.hok, rfl, q⟩
  | brk => obtain ⟨_, _, _, q⟩ := hs; exact False.elim q
  | cont => obtain ⟨_, _, _, q⟩ := hs; exact False.elim q
/-- a call of it -/
theorem FnG.at_ {k : Nat} {f : Addr} {fd : FuncData} {ps : List Str} {p : List D → Sto → DK → Prop} {X : Cx} (F : FnG X.prog X.w X.K X.mg X.base k f fd ps p) (gd : X.A.guards = some []) (hr : Room k X.A)
    {pins : List (Addr × Obj)} {s : Shared} {σ : L2.St} {H : Hp} {vs : List V} {us us' : List Value} {kw : List (Str × Value)} {Q : VK} (I : Inv X pins σ H s) (r : Vals vs us) (hb : BindsTo s fd ⟨us', kw⟩ (ps.zip us)) (h : upC X.K p vs H Q) :
    wpAny (model X.prog X.w) X.A (call (.ref f) us' kw) (EP X pins σ Q) X.xe s := by
  refine wpAny_call (codeAny_mono (F X.A X.stack s H ⟨us', kw⟩ us vs Q gd hr I.env0 hb r h) fun res s' hq => ?_)
  match res, hq with
  | .ok (.ret u), hq => exact I.after hq
  | .ok .next, hq => exact False.elim hq
  | .ok .brk, hq => exact False.elim hq
  | .ok .cont, hq => exact False.elim hq
  | .error e, hq => exact False.elim hq
theorem find_of {fds : List Fd} {x : Str} {ps : List Str} : ((fds.map fun d => (d.name, d.ps)).lookup x = some ps) → ∃ d, fds.find? (fun d => d.name == x) = some d ∧ d.ps = ps ∧ d.name = x ∧ d ∈ fds := by
  induction fds with
  | nil => intro h; cases h
  | cons d fds ih =>
    intro h
    rw [List.map_cons, List.lookup_cons] at h
    cases e : x == d.name with
    | true =>
      rw [e] at h
      cases h
      have e' : x = d.name := by simpa using e
      exact ⟨d, by rw [List.find?_cons_of_pos (by simp [e'])], rfl, e'.symm, List.mem_cons_self⟩
    | false =>
      rw [e] at h
      obtain ⟨d', h1, h2, h3, h4⟩ := ih h
      refine ⟨d', ?_, h2, h3, List.mem_cons_of_mem _ h4⟩
      rw [List.find?_cons_of_neg]
      · exact h1
      · intro q
        have q' : d.name = x := by simpa using q
        rw [← q'] at e
        simp at e
theorem upC_len {p : List D → Sto → DK → Prop} {vs : List V} {H : Hp} {Q : VK} {n : Nat} (hp : ∀ xs η Q, p xs η Q → xs.length = n) (h : upC K p vs H Q) : vs.length = n := by
  obtain ⟨ds, η, is, ab, h⟩ := h
  rw [is.length]; exact hp _ _ _ h
/-- all defs of a module, to any depth -/
theorem prim_of {fds : List Fd} {free : List Str} {con : List (Str × D)} (hd : ∀ d ∈ fds, ∃ f fd, FdOk (tabOf fds free con) K mg d f fd) (hf : ∀ x, free.contains x = true → mg x = none) (hc : ∀ x d, con.lookup x = some d → ∃ v u, mg x = some u ∧ RelV v u ∧ ∀ H, IsD K H v d) :
    ∀ (n : Nat) (A : Around), A.guards = some [] → Room n A → Prim (tabOf fds free con) (rdC fds (fun x => con.lookup x) n) P w K mg base A := by
  intro n
  induction n with
  | zero =>
    intro A gd hr
    refine ⟨fun x ps h => ?_, hf, hc⟩
    obtain ⟨d, h1, h2, h3, h4⟩ := find_of h
    obtain ⟨f, fd, F⟩ := hd d h4
    refine ⟨f, fun X e1 e2 e3 e4 e5 e6 => ⟨by rw [e4, ← h3]; exact F.at_, by rw [e3]; exact F.fn.kp, ?_, ?_⟩⟩
    · rintro pins s σ H xs us Q I r ⟨_, _, _, _, q⟩; exact q.elim
    · rintro pins s σ H xs us Q I r ⟨_, _, _, _, q⟩; exact q.elim
  | succ n ih =>
    intro A gd hr
    refine ⟨fun x ps h => ?_, hf, hc⟩
    obtain ⟨d, h1, h2, h3, h4⟩ := find_of h
    obtain ⟨f, fd, F⟩ := hd d h4
    have fg := fnG_of (P := P) (w := w) (base := base) (rdC_mono n) F rfl fun A' g r => ih A' g r
    subst h2 h3
    refine ⟨f, fun X e1 e2 e3 e4 e5 e6 => ?_⟩
    subst e1 e2 e3 e4 e5 e6
    have step : ∀ {xs : List D} {η : Sto} {Q : DK}, rdC fds (fun x => con.lookup x) (n + 1) d.name xs η Q → xs.length = d.ps.length ∧ rdSs (rdC fds (fun x => con.lookup x) n) (fun x => con.lookup x) d.own (retE Q) (dStart d xs) η := fun {xs η Q} h => by
      obtain ⟨d', g1, g2, g3⟩ := h
      rw [h1] at g1
      cases g1
      exact ⟨g2, g3⟩
    refine ⟨F.at_, F.fn.kp, ?_, ?_⟩
    · rintro pins s σ H xs us Q I r ⟨ds, η, is, ab, q⟩
      obtain ⟨q1, q2⟩ := step q
      refine fg.at_ gd hr I r (F.bp s us ?_) ⟨ds, η, is, ab, q1, q2⟩
      rw [← r.length, is.length]; exact q1
    · rintro pins s σ H xs us Q I r ⟨ds, η, is, ab, q⟩
      obtain ⟨q1, q2⟩ := step q
      refine fg.at_ gd hr I r (F.bk s us ?_) ⟨ds, η, is, ab, q1, q2⟩
      rw [← r.length, is.length]; exact q1
end
end DL

set_option Elab.async false
set_option linter.all false
set_option maxRecDepth 100000
set_option maxHeartbeats 4000000
/-! DL13: a law's end. -/
namespace DL
open PySem PySem.Spec PyProof.Rows L2
theorem ints_is {K : PySem.W.Frag} {H : Hp} : ∀ ns : List Int, IsDs K H (ns.map V.int) (ns.map D.int)
  | [] => .nil
  | n :: ns => .cons (.int n) (ints_is ns)
/-- what a law's call leaves -/
def LawEnd (s s' : Shared) (r : Result) : Prop := r = .ok (.ret (.bool true)) ∧ OldK s.heap s'.heap ∧ s'.os = s.os ∧ AllBare s'.gens
section
variable {P : Program} {w : World} {K : PySem.W.Frag} {mg mb : Str → Option Value} {k : Nat} {fa a : Addr} {fd : FuncData} {x : Str} {p : List D → Sto → DK → Prop} {s : Shared} {vs : List Value} {ns : List Int}
/-- the law's call over an abstract heap in which the script alone may be told, as a list that nobody writes -/
theorem law_over {H : Hp} (KX : K.In s.heap) (g1 : s.heap.Ns mainGlobals mg) (g2 : s.heap.Ns builtinsNs mb) (g3 : ∀ x : Str, x ≠ "__name__" → mb x = bootBuiltins x) (g4 : s.heap.NoLimit) (g5 : s.gens = #[])
    (ha : s.heap.get? a = some { cls := .type "list", data := .seq vs.toArray }) (hr : Room k callerA)
    (F : ∀ base : Heap, K.In base → base.Ns mainGlobals mg → FnG P w K mg base k fa fd [x] p) (bd : ∀ (s : Shared) (u : Value), BindsTo s fd ⟨[u], []⟩ [(x, u)])
    (rd : RdL K H a (ns.map V.int)) (ok : HOk P w H s.heap) (alone : ∀ b, H b ≠ none → b = a ∧ K.lookup a = none ∧ ∃ o xs, H b = some (.frz o (.lst xs)))
    (hp : p [.rl (ns.map .int)] (fun _ => none) fun v _ => v = .bl true) (mp : ∀ xs η Q Q', LeD Q Q' → p xs η Q → p xs η Q') :
    codeAny (model P w) callerA (.call (.ref fa) ⟨[.ref a], []⟩) (fun r s' => LawEnd s s' r) s := by
  have untold : ∀ {b : Addr} {o : Obj}, s.heap.get? b = some o → b ≠ a ∨ K.lookup a ≠ none → H b = none := fun {b o} _ h => by
    cases q : H b with
    | none => rfl
    | some u =>
      obtain ⟨e1, e2, _⟩ := alone b (by rw [q]; simp)
      rcases h with h | h
      · exact absurd e1 h
      · exact absurd e2 h
  have space : ∀ {b : Addr} {m : Str → Option Value}, s.heap.Ns b m → (hidT s.heap H).Ns b m := by
    rintro b m ⟨o, es, ep, e, d, r⟩
    refine ⟨o, es, ep, hidT_get e (untold e (.inl fun q => ?_)), d, r⟩
    subst q
    rw [ha] at e
    cases e
    exact Data.noConfusion d
  have written : K.In (hidT s.heap H) := fun b o e => hidT_get (KX b o e) (by
    cases q : H b with
    | none => rfl
    | some u =>
      obtain ⟨e1, e2, _⟩ := alone b (by rw [q]; simp)
      rw [e1, e2] at e
      cases e)
  have md : Mod K mg (hidT s.heap H) := ⟨written, space g1, ⟨mb, space g2, g3⟩, by obtain ⟨mc, h1, h2⟩ := g4; exact ⟨mc, space h1, h2⟩⟩
  have e0 : Env0 P w K mg (hidT s.heap H) callerA [] s H := ⟨rfl, md, fun b o e => of_hidT e, Nat.le_of_eq (hidT_size _ _), trivial, fun b hb => (by cases hb), ok, .of_eq g5⟩
  have up : upC K p [.ref a] H fun v _ => v = .bl true :=
    ⟨[.rl (ns.map .int)], fun _ => none, .cons (.rl rd (ints_is ns)) .nil, fun _ _ e => (by cases e), mp _ _ _ _ (fun d η h u H' t a i => by subst h; cases i; rfl) hp⟩
  refine codeAny_mono (F _ written (space g1) callerA [] s H ⟨[.ref a], []⟩ [.ref a] [.ref a] _ rfl hr e0 (bd s (.ref a)) (.cons rfl .nil) up) fun r s' h => ?_
  match r, h with
  | .error e, h => exact h.elim
  | .ok .next, h => exact False.elim h
  | .ok .brk, h => exact False.elim h
  | .ok .cont, h => exact False.elim h
  | .ok (.ret u), h =>
    obtain ⟨v, H', os, bare, un, hok', r', q⟩ := h
    have q' : v = .bl true := q
    subst q'
    obtain rfl : u = Value.bool true := r'
    refine ⟨rfl, OldK.of_keep fun b o e => ?_, os, bare⟩
    cases q : H b with
    | none => exact un.keep b o e q (by intro z; cases z) (by simp)
    | some u =>
      obtain ⟨_, _, ob, xs, z⟩ := alone b (by rw [q]; simp)
      have z2 := un.frzs b ob _ z
      obtain ⟨e1, _⟩ := ok b _ z
      obtain ⟨e2, _⟩ := hok' b _ z2
      rw [e] at e1
      cases e1
      exact e2
theorem law_G (KX : K.In s.heap) (g1 : s.heap.Ns mainGlobals mg) (g2 : s.heap.Ns builtinsNs mb) (g3 : ∀ x : Str, x ≠ "__name__" → mb x = bootBuiltins x) (g4 : s.heap.NoLimit) (g5 : s.gens = #[])
    (ha : s.heap.get? a = some { cls := .type "list", data := .seq vs.toArray }) (hi : IntsAre vs ns) (hl : ns.length ≤ sizeLine) (hr : Room k callerA)
    (F : ∀ base : Heap, K.In base → base.Ns mainGlobals mg → FnG P w K mg base k fa fd [x] p) (bd : ∀ (s : Shared) (u : Value), BindsTo s fd ⟨[u], []⟩ [(x, u)])
    (hp : p [.rl (ns.map .int)] (fun _ => none) fun v _ => v = .bl true) (mp : ∀ xs η Q Q', LeD Q Q' → p xs η Q → p xs η Q') :
    codeAny (model P w) callerA (.call (.ref fa) ⟨[.ref a], []⟩) (fun r s' => LawEnd s s' r) s := by
  have rv := vals_ints hi
  cases hk : K.lookup a with
  | some o =>
    have e := KX a o hk
    rw [ha] at e
    cases e
    refine law_over (H := fun _ => none) KX g1 g2 g3 g4 g5 ha hr F bd (.inr ⟨_, vs.toArray, _, hk, rfl, rfl, rfl, ?_, by simpa using rv⟩) (fun b u z => nomatch z) (fun b z => absurd rfl z) hp mp
    rw [List.size_toArray, hi.length]
    exact hl
  | none =>
    refine law_over (H := fun b => if b = a then some (.frz { cls := .type "list", data := .seq vs.toArray } (.lst (ns.map V.int))) else none) KX g1 g2 g3 g4 g5 ha hr F bd (.inl ⟨_, if_pos rfl⟩) ?_ ?_ hp mp
    · intro b u z
      by_cases hb : b = a
      · have z' := (if_pos hb).symm.trans z
        cases z'
        subst hb
        exact ⟨ha, by rw [List.length_map]; exact hl, vs, _, rv, ha⟩
      · have z' := (if_neg hb).symm.trans z
        cases z'
    · intro b z
      by_cases hb : b = a
      · exact ⟨hb, hk, _, _, if_pos hb⟩
      · exact absurd (if_neg hb) z
end
/-- what a head over facts leaves, from the law's own reading -/
theorem walk_G {l : PySem.W.OpenLaw} {n k : Nat} {q : Program} {loose : List Str} {XP : (Str → Option Value) → Heap → Prop} {YP : World → Heap → Prop} {d : DefRec} {x : Str} {p : List D → Sto → DK → Prop}
    (hn : l.most = some n) (hn2 : n ≤ sizeLine) (hdf : d.params.defaults = []) (hr : Room k callerA) (mp : ∀ xs η Q Q', LeD Q Q' → p xs η Q → p xs η Q')
    (hp : ∀ ns : List Int, ns.length ≤ n → p [.rl (ns.map .int)] (fun _ => none) fun v _ => v = .bl true)
    (F : ∀ (w : World) (mg : Str → Option Value) (fa : Addr) (h : Heap), YP w h → h.Ns mainGlobals mg → mg d.name = some (.ref fa) →
      ∃ (K : PySem.W.Frag) (fd : FuncData), K.In h ∧ (∀ (s : Shared) (u : Value), BindsTo s fd ⟨[u], []⟩ [(x, u)]) ∧ ∀ base : Heap, K.In base → base.Ns mainGlobals mg → FnG l.prog w K mg base k fa fd [x] p) :
    PySem.W.WalkO q loose XP YP l.row.toRowW d [] (fun f vs => PySem.call f vs) := by
  refine Att.attach_call hn hdf fun w s₀ s₁ mg mb fa o pm cd doc a vs ns G Y ho hd hcd hmg hobj hints hlen hg => ?_
  obtain ⟨K, fd, KX, hb, hF⟩ := F w mg fa _ Y G.T.g hmg
  exact law_G KX G.T.g G.T.b G.T.builtins G.T.nolimit hg hobj hints (Nat.le_trans hlen hn2) hr hF hb (hp ns hlen) mp
end DL

set_option Elab.async false
set_option linter.all false
set_option maxRecDepth 100000
set_option maxHeartbeats 4000000
/-! DL14: a law's walk from the facts of its head. -/
namespace DL
open PySem PySem.Spec PyProof.Rows L2
def ddOf (d : Fd) : He.DefD := ⟨(d.name, none), d.name, d.name, d.args, d.body, d.sc, [], []⟩
def faCon : Str × D → He.Fa
  | (x, .int i) => .int x i
  | (x, .str z) => .str x z
  | (x, _) => .glo x
def conPl : Str × D → Bool
  | (_, .int _) => true
  | (_, .str _) => true
  | _ => false
def faOf (fds : List Fd) (fre : List Str) (con : List (Str × D)) : List He.Fa := fds.map (fun d => .glo d.name) ++ (fre.map (fun x => .free x) ++ con.map faCon)
/-- what is decided of each def -/
structure Told (T : Tab) (d : Fd) : Prop where
  sc : FnScope d.N d.ps d.sc
  chk : mSs ⟨T, d.N, d.sc, true⟩ d.own d.body = true
  bind : ∀ (kV doc pm : Value) (an : Option Addr) (cdv ct : Value) (us : List Value), us.length = d.ps.length →
    bindArgs (PySem.W.fnOf d.name d.name d.args d.body d.sc .none kV doc pm an cdv ct) ⟨us, []⟩ = pure (d.ps.zip us) ∧ bindArgs (PySem.W.fnOf d.name d.name d.args d.body d.sc .none kV doc pm an cdv ct) ⟨[], d.ps.zip us⟩ = pure (d.ps.zip us)
section
variable {P : Program} {w : World} {K : PySem.W.Frag} {mg : Str → Option Value} {h : Heap} {fds : List Fd} {fre : List Str} {con : List (Str × D)}
theorem fds_ok (X : K.In h) (G : h.Ns mainGlobals mg) (c : He.SaysD (faOf fds fre con) (fds.map ddOf) K) (t : ∀ d ∈ fds, Told (tabOf fds fre con) d) : ∀ d ∈ fds, ∃ f fd, FdOk (tabOf fds fre con) K mg d f fd := by
  intro d hd
  obtain ⟨fd, F⟩ := c.defs (d := ddOf d) (List.mem_map_of_mem hd)
  have g : mg d.name = some (.ref (He.ga K d.name)) := He.glo_ok X G (c.facts (f := .glo d.name) (List.mem_append_left _ (List.mem_map_of_mem (f := fun d : Fd => He.Fa.glo d.name) hd)))
  have td := t d hd
  have F' : FunD K d.name d.name d.args d.body d.sc [] [] (He.ga K d.name) fd := F
  obtain ⟨oc, od, dV, kV, doc, pm, an, cdv, ct, osl, rfl, lk, hcd, hD, hK⟩ := F'.ex
  rcases hD with ⟨_, rfl⟩ | ⟨e, _⟩
  · exact ⟨_, _, F', g, td.sc, fun s us hl => .of_eq (td.bind kV doc pm an cdv ct us hl).1, fun s us hl => .of_eq (td.bind kV doc pm an cdv ct us hl).2, td.chk⟩
  · exact absurd rfl e
theorem free_ok (X : K.In h) (G : h.Ns mainGlobals mg) (c : He.SaysD (faOf fds fre con) (fds.map ddOf) K) : ∀ x, fre.contains x = true → mg x = none := fun x hx =>
  He.free_ok X G (c.facts (f := .free x) (List.mem_append_right _ (List.mem_append_left _ (List.mem_map_of_mem (f := fun x => He.Fa.free x) (by simpa using hx)))))
theorem con_ok (X : K.In h) (G : h.Ns mainGlobals mg) (c : He.SaysD (faOf fds fre con) (fds.map ddOf) K) (hc : con.all conPl = true) : ∀ x d, con.lookup x = some d → ∃ v u, mg x = some u ∧ RelV v u ∧ ∀ H, IsD K H v d := by
  intro x d hx
  have hm : (x, d) ∈ con := PySem.mem_of_lookup hx
  have f := c.facts (f := faCon (x, d)) (List.mem_append_right _ (List.mem_append_right _ (List.mem_map_of_mem hm)))
  have p := List.all_eq_true.mp hc _ hm
  cases d <;> first | exact Bool.noConfusion p | skip
  · rename_i i
    obtain ⟨t, e⟩ := He.int_ok X G f
    exact ⟨.int i, _, e, ⟨t, rfl⟩, fun H => .int _⟩
  · rename_i z
    obtain ⟨t, e⟩ := He.str_ok X G f
    exact ⟨.str z, _, e, ⟨t, rfl⟩, fun H => .str _⟩
end
/-- the law's walk: its own reading at the script, k calls deep -/
theorem law_walk {l : PySem.W.OpenLaw} {n k : Nat} {q : Program} {loose : List Str} {XP : (Str → Option Value) → Heap → Prop} {YP : World → Heap → Prop} {d : DefRec} {x : Str} {fds : List Fd} {fre : List Str} {con : List (Str × D)} {dl : Fd}
    (hn : l.most = some n) (hn2 : n ≤ sizeLine) (hdf : d.params.defaults = []) (hr : Room (k + 1) callerA) (hdl : dl ∈ fds) (hps : dl.ps = [x]) (hname : d.name = dl.name) (t : ∀ d ∈ fds, Told (tabOf fds fre con) d) (hc : con.all conPl = true)
    (hY : ∀ w h, YP w h → ∃ K : PySem.W.Frag, K.In h ∧ He.SaysD (faOf fds fre con) (fds.map ddOf) K)
    (hp : ∀ ns : List Int, ns.length ≤ n → rdSs (rdC fds (fun x => con.lookup x) k) (fun x => con.lookup x) dl.own (retE fun v _ => v = .bl true) (dStart dl [.rl (ns.map .int)]) (fun _ => none)) :
    PySem.W.WalkO q loose XP YP l.row.toRowW d [] (fun f vs => PySem.call f vs) := by
  refine walk_G (k := k + 1) (x := x) (p := fun args η Q => args.length = dl.ps.length ∧ rdSs (rdC fds (fun x => con.lookup x) k) (fun x => con.lookup x) dl.own (retE Q) (dStart dl args) η) hn hn2 hdf hr
    (fun xs η Q Q' q h => ⟨h.1, mo_Ss (rdC_mono k) dl.own _ _ _ _ (retE_le q) h.2⟩) (fun ns hl => ⟨by rw [hps]; rfl, hp ns hl⟩) fun w mg fa h Y G hmg0 => ?_
  obtain ⟨K, KX, c⟩ := hY w h Y
  have ok := fds_ok KX G c t
  obtain ⟨f, fd, F⟩ := ok dl hdl
  have e : fa = f := by
    have q := F.at_
    rw [← hname, hmg0] at q
    cases q
    rfl
  subst e
  refine ⟨K, fd, KX, fun s u => ?_, fun base _ _ => ?_⟩
  · have q := F.bp s [u] (by rw [hps]; rfl)
    rw [hps] at q
    exact q
  · have q := fnG_of (P := l.prog) (w := w) (base := base) (rdC_mono k) F rfl fun A g r => prim_of ok (free_ok KX G c) (con_ok KX G c hc) k A g r
    rw [hps] at q ⊢
    exact q
end DL

set_option Elab.async false
set_option linter.all false
set_option maxRecDepth 100000
set_option maxHeartbeats 4000000
/-! DLR (printed by gr.py): the readings' equations one by one. -/
namespace DL
open PySem PySem.Spec PyProof.Rows L2
def forR (C : Calls) (G : Str → Option D) (t : Tg) (b : Ss) (gd : Sto → Prop) (L : List D) (E : DEnds) (δ : DSt) (η : Sto) : Prop := forLoop (rdG C G t) (rdSs C G b) gd L E δ η
def whlR (C : Calls) (G : Str → Option D) (c : DL.E) (b : Ss) (E : DEnds) (δ : DSt) (η : Sto) : Prop := ∃ n, whlLoop (rdT C G c) (rdSs C G b) n E δ η
def lcR (C : Calls) (G : Str → Option D) (t : Tg) (ifs : Es) (elt : DL.E) (δ : DSt) (gd : Sto → Prop) (p : Addr) (L : List D) (η : Sto) (Q : Sto → Prop) : Prop := lcLoop (rdG C G t) (rdTs C G ifs) (rdE C G elt) δ gd p L η Q
theorem rE_var {C : Calls} {G : Str → Option D} {i : Nat} {δ : DSt} {η : Sto} {Q : DK} : (rdE C G (.var i) δ η Q) = (∃ d, δ[i]? = some (some d) ∧ Q d η) := rfl
theorem rE_int {C : Calls} {G : Str → Option D} {i : Int} {δ : DSt} {η : Sto} {Q : DK} : (rdE C G (.int i) δ η Q) = (Q (.int i) η) := rfl
theorem rE_str {C : Calls} {G : Str → Option D} {i : Str} {δ : DSt} {η : Sto} {Q : DK} : (rdE C G (.str i) δ η Q) = (Q (.str i) η) := rfl
theorem rE_bl {C : Calls} {G : Str → Option D} {i : Bool} {δ : DSt} {η : Sto} {Q : DK} : (rdE C G (.bl i) δ η Q) = (Q (.bl i) η) := rfl
theorem rE_non {C : Calls} {G : Str → Option D}  {δ : DSt} {η : Sto} {Q : DK} : (rdE C G (.non) δ η Q) = (Q .non η) := rfl
theorem rE_glo {C : Calls} {G : Str → Option D} {x : Str} {δ : DSt} {η : Sto} {Q : DK} : (rdE C G (.glo x) δ η Q) = (∃ d, G x = some d ∧ Q d η) := rfl
theorem rE_bin {C : Calls} {G : Str → Option D} {o : BOp} {a b : E} {δ : DSt} {η : Sto} {Q : DK} : (rdE C G (.bin o a b) δ η Q) = (rdE C G a δ η fun x η1 => rdE C G b δ η1 fun y η2 => opD o x y η2 Q) := rfl
theorem rE_neg {C : Calls} {G : Str → Option D} {a : E} {δ : DSt} {η : Sto} {Q : DK} : (rdE C G (.neg a) δ η Q) = (rdE C G a δ η fun x η1 => ∃ i, x = .int i ∧ Q (.int (-i)) η1) := rfl
theorem rE_cmp {C : Calls} {G : Str → Option D} {o : COp} {a b : E} {δ : DSt} {η : Sto} {Q : DK} : (rdE C G (.cmp o a b) δ η Q) = (rdE C G a δ η fun x η1 => rdE C G b δ η1 fun y η2 => cmpD o x y η2 fun c η3 => Q (.bl c) η3) := rfl
theorem rE_chn {C : Calls} {G : Str → Option D} {o p : COp} {a b c : E} {δ : DSt} {η : Sto} {Q : DK} : (rdE C G (.chn o p a b c) δ η Q) = (rdE C G a δ η fun x η1 => rdE C G b δ η1 fun y η2 => cmpD o x y η2 fun k η3 => if k = true then rdE C G c δ η3 fun z η4 => cmpD p y z η4 fun k η5 => Q (.bl k) η5 else Q (.bl false) η3) := rfl
theorem rE_and {C : Calls} {G : Str → Option D} {a b : E} {δ : DSt} {η : Sto} {Q : DK} : (rdE C G (.and a b) δ η Q) = (rdE C G a δ η fun x η1 => ∃ c, x = .bl c ∧ if c = true then rdE C G b δ η1 Q else Q (.bl false) η1) := rfl
theorem rE_or {C : Calls} {G : Str → Option D} {a b : E} {δ : DSt} {η : Sto} {Q : DK} : (rdE C G (.or a b) δ η Q) = (rdE C G a δ η fun x η1 => ∃ c, x = .bl c ∧ if c = true then Q (.bl true) η1 else rdE C G b δ η1 Q) := rfl
theorem rE_not {C : Calls} {G : Str → Option D} {a : E} {δ : DSt} {η : Sto} {Q : DK} : (rdE C G (.not a) δ η Q) = (rdE C G a δ η fun x η1 => ∃ c, x = .bl c ∧ Q (.bl (!c)) η1) := rfl
theorem rE_ife {C : Calls} {G : Str → Option D} {c a b : E} {δ : DSt} {η : Sto} {Q : DK} : (rdE C G (.ife c a b) δ η Q) = (rdT C G c δ η fun k η1 => if k = true then rdE C G a δ η1 Q else rdE C G b δ η1 Q) := rfl
theorem rE_idx {C : Calls} {G : Str → Option D} {a b : E} {δ : DSt} {η : Sto} {Q : DK} : (rdE C G (.idx a b) δ η Q) = (rdE C G a δ η fun x η1 => rdE C G b δ η1 fun y η2 => idxD x y η2 Q) := rfl
theorem rE_slc {C : Calls} {G : Str → Option D} {a : E} {lo hi : Oe} {δ : DSt} {η : Sto} {Q : DK} : (rdE C G (.slc a lo hi) δ η Q) = (rdE C G a δ η fun x η1 => rdO C G lo δ η1 fun l η2 => rdO C G hi δ η2 fun h η3 => slcD x l h η3 Q) := rfl
theorem rE_rev {C : Calls} {G : Str → Option D} {a : E} {δ : DSt} {η : Sto} {Q : DK} : (rdE C G (.rev a) δ η Q) = (rdE C G a δ η fun x η1 => revD x η1 Q) := rfl
theorem rE_tup {C : Calls} {G : Str → Option D} {a : Es} {δ : DSt} {η : Sto} {Q : DK} : (rdE C G (.tup a) δ η Q) = (rdA C G a δ η fun xs η1 => xs.length ≤ sizeLine ∧ Q (.tup xs) η1) := rfl
theorem rE_lst {C : Calls} {G : Str → Option D} {a : Es} {δ : DSt} {η : Sto} {Q : DK} : (rdE C G (.lst a) δ η Q) = (rdA C G a δ η fun xs η1 => xs.length ≤ sizeLine ∧ ∀ p, η1 p = none → Q (.ref p) (put η1 p (.lst xs))) := rfl
theorem rE_dic {C : Calls} {G : Str → Option D}  {δ : DSt} {η : Sto} {Q : DK} : (rdE C G (.dic) δ η Q) = (∀ p, η p = none → Q (.ref p) (put η p (.dK []))) := rfl
theorem rE_call {C : Calls} {G : Str → Option D} {f : Str} {a : Es} {δ : DSt} {η : Sto} {Q : DK} : (rdE C G (.call f a) δ η Q) = (rdA C G a δ η fun xs η1 => C f xs η1 Q) := rfl
theorem rE_callk {C : Calls} {G : Str → Option D} {f : Str} {ks : List Str} {a : Es} {δ : DSt} {η : Sto} {Q : DK} : (rdE C G (.callk f ks a) δ η Q) = (rdA C G a δ η fun xs η1 => C f xs η1 Q) := rfl
theorem rE_isI {C : Calls} {G : Str → Option D} {a : E} {T : String} {δ : DSt} {η : Sto} {Q : DK} : (rdE C G (.isI a T) δ η Q) = (rdE C G a δ η fun x η1 => ∃ c, clsD x η1 c ∧ Q (.bl (isCls c T)) η1) := rfl
theorem rE_blt {C : Calls} {G : Str → Option D} {f : BN} {a : Es} {δ : DSt} {η : Sto} {Q : DK} : (rdE C G (.blt f a) δ η Q) = (rdA C G a δ η fun xs η1 => bltD f xs η1 fun d η2 => ∃ η3, Sub η3 η2 ∧ Q d η3) := rfl
theorem rE_rng {C : Calls} {G : Str → Option D} {tp : Bool} {a : Es} {δ : DSt} {η : Sto} {Q : DK} : (rdE C G (.rng tp a) δ η Q) = (rdA C G a δ η fun xs η1 => rgD xs η1 fun lo hi η2 => (hi - lo).toNat ≤ sizeLine ∧ if tp = true then Q (.tup (rngD lo hi)) η2 else ∀ p, η2 p = none → Q (.ref p) (put η2 p (.lst (rngD lo hi)))) := rfl
theorem rE_mth {C : Calls} {G : Str → Option D} {m : MN} {a : E} {b : Es} {δ : DSt} {η : Sto} {Q : DK} : (rdE C G (.mth m a b) δ η Q) = (rdE C G a δ η fun x η1 => tyD m x η1 ∧ rdA C G b δ η1 fun xs η2 => mthD m x xs η2 Q) := rfl
theorem rE_lc {C : Calls} {G : Str → Option D} {elt : E} {t : Tg} {it : I} {ifs : Es} {own : List Nat} {δ : DSt} {η : Sto} {Q : DK} : (rdE C G (.lc elt t it ifs own) δ η Q) = (rdI C G it δ η fun L gd η1 => ∀ p, η1 p = none → lcR C G t ifs elt (dwipe δ own) gd p L (put η1 p (.lst [])) fun η2 => Q (.ref p) η2) := rfl
theorem rT_and {C : Calls} {G : Str → Option D} {a b : E} {δ : DSt} {η : Sto} {Q : Bool → Sto → Prop} : (rdT C G (.and a b) δ η Q) = (rdT C G a δ η fun c η1 => if c = true then rdT C G b δ η1 Q else Q false η1) := rfl
theorem rT_or {C : Calls} {G : Str → Option D} {a b : E} {δ : DSt} {η : Sto} {Q : Bool → Sto → Prop} : (rdT C G (.or a b) δ η Q) = (rdT C G a δ η fun c η1 => if c = true then Q true η1 else rdT C G b δ η1 Q) := rfl
theorem rT_not {C : Calls} {G : Str → Option D} {a : E} {δ : DSt} {η : Sto} {Q : Bool → Sto → Prop} : (rdT C G (.not a) δ η Q) = (rdT C G a δ η fun c η1 => Q (!c) η1) := rfl
theorem rT_cmp {C : Calls} {G : Str → Option D} {o : COp} {a b : E} {δ : DSt} {η : Sto} {Q : Bool → Sto → Prop} : (rdT C G (.cmp o a b) δ η Q) = (rdE C G a δ η fun x η1 => rdE C G b δ η1 fun y η2 => cmpD o x y η2 Q) := rfl
theorem rT_chn {C : Calls} {G : Str → Option D} {o p : COp} {a b c : E} {δ : DSt} {η : Sto} {Q : Bool → Sto → Prop} : (rdT C G (.chn o p a b c) δ η Q) = (rdE C G a δ η fun x η1 => rdE C G b δ η1 fun y η2 => cmpD o x y η2 fun k η3 => if k = true then rdE C G c δ η3 fun z η4 => cmpD p y z η4 Q else Q false η3) := rfl
theorem rT_bl {C : Calls} {G : Str → Option D} {b : Bool} {δ : DSt} {η : Sto} {Q : Bool → Sto → Prop} : (rdT C G (.bl b) δ η Q) = (Q b η) := rfl
theorem rT_var {C : Calls} {G : Str → Option D} {i : Nat} {δ : DSt} {η : Sto} {Q : Bool → Sto → Prop} : (rdT C G (.var i) δ η Q) = (∃ b, δ[i]? = some (some (.bl b)) ∧ Q b η) := rfl
theorem rT_call {C : Calls} {G : Str → Option D} {f : Str} {a : Es} {δ : DSt} {η : Sto} {Q : Bool → Sto → Prop} : (rdT C G (.call f a) δ η Q) = (rdA C G a δ η fun xs η1 => C f xs η1 fun d η2 => ∃ b, d = .bl b ∧ Q b η2) := rfl
theorem rT_isI {C : Calls} {G : Str → Option D} {a : E} {T : String} {δ : DSt} {η : Sto} {Q : Bool → Sto → Prop} : (rdT C G (.isI a T) δ η Q) = (rdE C G a δ η fun x η1 => ∃ c, clsD x η1 c ∧ Q (isCls c T) η1) := rfl
theorem rT_blt {C : Calls} {G : Str → Option D} {f : BN} {a : Es} {δ : DSt} {η : Sto} {Q : Bool → Sto → Prop} : (rdT C G (.blt f a) δ η Q) = (rdA C G a δ η fun xs η1 => bltD f xs η1 fun d η2 => ∃ b η3, d = .bl b ∧ Sub η3 η2 ∧ Q b η3) := rfl
theorem rA_nil {C : Calls} {G : Str → Option D} {δ : DSt} {η : Sto} {Q : List D → Sto → Prop} : (rdA C G .nil δ η Q) = (Q [] η) := rfl
theorem rA_cons {C : Calls} {G : Str → Option D} {e : E} {es : Es} {δ : DSt} {η : Sto} {Q : List D → Sto → Prop} : (rdA C G (.cons e es) δ η Q) = (rdE C G e δ η fun x η1 => rdA C G es δ η1 fun xs η2 => Q (x :: xs) η2) := rfl
theorem rA_star {C : Calls} {G : Str → Option D} {e : E} {es : Es} {δ : DSt} {η : Sto} {Q : List D → Sto → Prop} : (rdA C G (.star e es) δ η Q) = (rdE C G e δ η fun x η1 => ∃ ys, seqD x η1 ys ∧ rdA C G es δ η1 fun xs η2 => Q (ys ++ xs) η2) := rfl
theorem rTs_nil {C : Calls} {G : Str → Option D} {δ : DSt} {η : Sto} {Q : Bool → Sto → Prop} : (rdTs C G .nil δ η Q) = (Q true η) := rfl
theorem rTs_one {C : Calls} {G : Str → Option D} {e : E} {δ : DSt} {η : Sto} {Q : Bool → Sto → Prop} : (rdTs C G (.cons e .nil) δ η Q) = (rdT C G e δ η Q) := rfl
theorem rO_no {C : Calls} {G : Str → Option D} {δ : DSt} {η : Sto} {Q : Option Int → Sto → Prop} : (rdO C G .no δ η Q) = (Q none η) := rfl
theorem rO_yes {C : Calls} {G : Str → Option D} {e : E} {δ : DSt} {η : Sto} {Q : Option Int → Sto → Prop} : (rdO C G (.yes e) δ η Q) = (rdE C G e δ η fun x η1 => ∃ i, x = .int i ∧ Q (some i) η1) := rfl
theorem rI_of {C : Calls} {G : Str → Option D} {e : E} {δ : DSt} {η : Sto} {Q : List D → (Sto → Prop) → Sto → Prop} : (rdI C G (.of e) δ η Q) = (rdE C G e δ η fun x η1 => itD x η1 Q) := rfl
theorem rI_rng {C : Calls} {G : Str → Option D} {e : Es} {δ : DSt} {η : Sto} {Q : List D → (Sto → Prop) → Sto → Prop} : (rdI C G (.rng e) δ η Q) = (rdA C G e δ η fun xs η1 => rgD xs η1 fun lo hi η2 => Q (rngD lo hi) (fun _ => True) η2) := rfl
theorem rI_enm {C : Calls} {G : Str → Option D} {e : E} {δ : DSt} {η : Sto} {Q : List D → (Sto → Prop) → Sto → Prop} : (rdI C G (.enm (.of e)) δ η Q) = (rdE C G e δ η fun x η1 => itD x η1 fun L gd η2 => Q (enmL L) gd η2) := rfl
theorem rI_ez {C : Calls} {G : Str → Option D} {e : Es} {δ : DSt} {η : Sto} {Q : List D → (Sto → Prop) → Sto → Prop} : (rdI C G (.enm (.zip e)) δ η Q) = (rdA C G e δ η fun xs η1 => zipD xs η1 fun L gd η2 => Q (enmL L) gd η2) := rfl
theorem rI_zip {C : Calls} {G : Str → Option D} {e : Es} {δ : DSt} {η : Sto} {Q : List D → (Sto → Prop) → Sto → Prop} : (rdI C G (.zip e) δ η Q) = (rdA C G e δ η fun xs η1 => zipD xs η1 Q) := rfl
theorem rG_name {C : Calls} {G : Str → Option D} {i : Nat} {v : D} {δ : DSt} {η : Sto} {Q : DSt → Sto → Prop} : (rdG C G (.name i) v δ η Q) = (Q (δ.set i (some v)) η) := rfl
theorem rG_tup {C : Calls} {G : Str → Option D} {t : Tgs} {v : D} {δ : DSt} {η : Sto} {Q : DSt → Sto → Prop} : (rdG C G (.tup t) v δ η Q) = (∃ xs, v = .tup xs ∧ xs.length = t.len ∧ rdGs C G t xs δ η Q) := rfl
theorem rG_sub {C : Calls} {G : Str → Option D} {a i : E} {v : D} {δ : DSt} {η : Sto} {Q : DSt → Sto → Prop} : (rdG C G (.sub a i) v δ η Q) = (rdE C G a δ η fun x η1 => rdE C G i δ η1 fun y η2 => setD x y v η2 fun η3 => Q δ η3) := rfl
theorem rGs_nil {C : Calls} {G : Str → Option D} {vs : List D} {δ : DSt} {η : Sto} {Q : DSt → Sto → Prop} : (rdGs C G .nil vs δ η Q) = (vs = [] ∧ Q δ η) := rfl
theorem rGs_cons {C : Calls} {G : Str → Option D} {t : Tg} {ts : Tgs} {vs : List D} {δ : DSt} {η : Sto} {Q : DSt → Sto → Prop} : (rdGs C G (.cons t ts) vs δ η Q) = (∃ v r, vs = v :: r ∧ rdG C G t v δ η fun δ1 η1 => rdGs C G ts r δ1 η1 Q) := rfl
theorem rS_asg {C : Calls} {G : Str → Option D} {t : Tg} {e : DL.E} {E : DEnds} {δ : DSt} {η : Sto} : (rdS C G (.asg t e) E δ η) = (rdE C G e δ η fun x η1 => rdG C G t x δ η1 E.nx) := rfl
theorem rS_par {C : Calls} {G : Str → Option D} {i j : Nat} {a b : DL.E} {E : DEnds} {δ : DSt} {η : Sto} : (rdS C G (.par i j a b) E δ η) = (rdE C G a δ η fun x η1 => rdE C G b δ η1 fun y η2 => E.nx ((δ.set i (some x)).set j (some y)) η2) := rfl
theorem rS_ex {C : Calls} {G : Str → Option D} {e : DL.E} {E : DEnds} {δ : DSt} {η : Sto} : (rdS C G (.ex e) E δ η) = (rdE C G e δ η fun _ η1 => E.nx δ η1) := rfl
theorem rS_ret {C : Calls} {G : Str → Option D} {e : DL.E} {E : DEnds} {δ : DSt} {η : Sto} : (rdS C G (.ret e) E δ η) = (rdE C G e δ η E.rt) := rfl
theorem rS_retN {C : Calls} {G : Str → Option D}  {E : DEnds} {δ : DSt} {η : Sto} : (rdS C G (.retN) E δ η) = (E.rt .non η) := rfl
theorem rS_ife {C : Calls} {G : Str → Option D} {c : DL.E} {a b : Ss} {E : DEnds} {δ : DSt} {η : Sto} : (rdS C G (.ife c a b) E δ η) = (rdT C G c δ η fun k η1 => if k = true then rdSs C G a E δ η1 else rdSs C G b E δ η1) := rfl
theorem rS_for {C : Calls} {G : Str → Option D} {t : Tg} {i : I} {b : Ss} {E : DEnds} {δ : DSt} {η : Sto} : (rdS C G (.for_ t i b) E δ η) = (rdI C G i δ η fun L gd η1 => forR C G t b gd L E δ η1) := rfl
theorem rS_whl {C : Calls} {G : Str → Option D} {c : DL.E} {b : Ss} {E : DEnds} {δ : DSt} {η : Sto} : (rdS C G (.whl c b) E δ η) = (whlR C G c b E δ η) := rfl
theorem rS_never {C : Calls} {G : Str → Option D}  {E : DEnds} {δ : DSt} {η : Sto} : (rdS C G (.never) E δ η) = (False) := rfl
theorem rS_pass {C : Calls} {G : Str → Option D}  {E : DEnds} {δ : DSt} {η : Sto} : (rdS C G (.pass) E δ η) = (E.nx δ η) := rfl
theorem rS_brk {C : Calls} {G : Str → Option D}  {E : DEnds} {δ : DSt} {η : Sto} : (rdS C G (.brk) E δ η) = (E.bk δ η) := rfl
theorem rS_cont {C : Calls} {G : Str → Option D}  {E : DEnds} {δ : DSt} {η : Sto} : (rdS C G (.cont) E δ η) = (E.ct δ η) := rfl
theorem rSs_nil {C : Calls} {G : Str → Option D} {E : DEnds} {δ : DSt} {η : Sto} : (rdSs C G .nil E δ η) = (E.nx δ η) := rfl
theorem rSs_cons {C : Calls} {G : Str → Option D} {s : S} {ss : Ss} {E : DEnds} {δ : DSt} {η : Sto} : (rdSs C G (.cons s ss) E δ η) = (rdS C G s { E with nx := fun δ1 η1 => rdSs C G ss E δ1 η1 } δ η) := rfl
theorem o_add_i {i j : Int} {η : Sto} {Q : DK} : (opD .add (.int i) (.int j) η Q) = (Q (.int (i + j)) η) := rfl
theorem o_sub_i {i j : Int} {η : Sto} {Q : DK} : (opD .sub (.int i) (.int j) η Q) = (Q (.int (i - j)) η) := rfl
theorem o_mul_i {i j : Int} {η : Sto} {Q : DK} : (opD .mul (.int i) (.int j) η Q) = (IntMulOk i j ∧ Q (.int (i * j)) η) := rfl
theorem o_fdiv_i {i j : Int} {η : Sto} {Q : DK} : (opD .fdiv (.int i) (.int j) η Q) = (CDivW i j ∧ Q (.int (i / j)) η) := rfl
theorem o_mod_i {i j : Int} {η : Sto} {Q : DK} : (opD .mod (.int i) (.int j) η Q) = (0 < j ∧ Q (.int (i % j)) η) := rfl
theorem o_pow_i {i j : Int} {η : Sto} {Q : DK} : (opD .pow (.int i) (.int j) η Q) = (0 ≤ j ∧ (Builtin.Int.intBits i : Int) * j ≤ 2 ^ 27 ∧ Q (.int (i ^ j.toNat)) η) := rfl
theorem o_add_t {a b : List D} {η : Sto} {Q : DK} : (opD .add (.tup a) (.tup b) η Q) = (a.length + b.length ≤ sizeLine ∧ Q (.tup (a ++ b)) η) := rfl
theorem o_add_s {a b : Str} {η : Sto} {Q : DK} : (opD .add (.str a) (.str b) η Q) = (a.length + b.length ≤ sizeLine ∧ Q (.str (a ++ b)) η) := rfl
theorem o_add_r {a b : Addr} {η : Sto} {Q : DK} : (opD .add (.ref a) (.ref b) η Q) = (∃ xs ys, η a = some (.lst xs) ∧ η b = some (.lst ys) ∧ xs.length + ys.length ≤ sizeLine ∧ ∀ p, η p = none → Q (.ref p) (put η p (.lst (xs ++ ys)))) := rfl
theorem c_lt_i {i j : Int} {η : Sto} {Q : Bool → Sto → Prop} : (cmpD .lt (.int i) (.int j) η Q) = (Q (decide (i < j)) η) := rfl
theorem c_le_i {i j : Int} {η : Sto} {Q : Bool → Sto → Prop} : (cmpD .le (.int i) (.int j) η Q) = (Q (decide (i ≤ j)) η) := rfl
theorem c_gt_i {i j : Int} {η : Sto} {Q : Bool → Sto → Prop} : (cmpD .gt (.int i) (.int j) η Q) = (Q (decide (j < i)) η) := rfl
theorem c_ge_i {i j : Int} {η : Sto} {Q : Bool → Sto → Prop} : (cmpD .ge (.int i) (.int j) η Q) = (Q (decide (j ≤ i)) η) := rfl
theorem i_tup {xs : List D} {i : Int} {η : Sto} {Q : DK} : (idxD (.tup xs) (.int i) η Q) = (∃ d, atI xs i = some d ∧ Q d η) := rfl
theorem i_rl {xs : List D} {i : Int} {η : Sto} {Q : DK} : (idxD (.rl xs) (.int i) η Q) = (∃ d, atI xs i = some d ∧ Q d η) := rfl
theorem i_ref {a : Addr} {i : Int} {η : Sto} {Q : DK} : (idxD (.ref a) (.int i) η Q) = (∃ xs d, η a = some (.lst xs) ∧ atI xs i = some d ∧ Q d η) := rfl
theorem s_tup {xs : List D} {lo hi : Option Int} {η : Sto} {Q : DK} : (slcD (.tup xs) lo hi η Q) = (Q (.tup (cut xs lo hi)) η) := rfl
theorem s_rl {xs : List D} {lo hi : Option Int} {η : Sto} {Q : DK} : (slcD (.rl xs) lo hi η Q) = (∀ p, η p = none → Q (.ref p) (put η p (.lst (cut xs lo hi)))) := rfl
theorem s_ref {a : Addr} {lo hi : Option Int} {η : Sto} {Q : DK} : (slcD (.ref a) lo hi η Q) = (∃ xs, η a = some (.lst xs) ∧ ∀ p, η p = none → Q (.ref p) (put η p (.lst (cut xs lo hi)))) := rfl
theorem r_tup {xs : List D} {η : Sto} {Q : DK} : (revD (.tup xs) η Q) = (Q (.tup xs.reverse) η) := rfl
theorem q_tup {xs ys : List D} {η : Sto} : (seqD (.tup xs) η ys) = (ys = xs) := rfl
theorem q_rl {xs ys : List D} {η : Sto} : (seqD (.rl xs) η ys) = (ys = xs) := rfl
theorem q_ref {a : Addr} {ys : List D} {η : Sto} : (seqD (.ref a) η ys) = (η a = some (.lst ys)) := rfl
theorem l_rl {xs ys : List D} {η : Sto} : (lstD (.rl xs) η ys) = (ys = xs) := rfl
theorem l_ref {a : Addr} {ys : List D} {η : Sto} : (lstD (.ref a) η ys) = (η a = some (.lst ys)) := rfl
theorem t_append {a : Addr} {η : Sto} : (tyD .append (.ref a) η) = (∃ xs, η a = some (.lst xs)) := rfl
theorem t_extend {a : Addr} {η : Sto} : (tyD .extend (.ref a) η) = (∃ xs, η a = some (.lst xs)) := rfl
theorem t_pop {a : Addr} {η : Sto} : (tyD .pop (.ref a) η) = (∃ xs, η a = some (.lst xs)) := rfl
theorem m_append {a : Addr} {y : D} {η : Sto} {Q : DK} : (mthD .append (.ref a) [y] η Q) = (∃ xs, η a = some (.lst xs) ∧ xs.length < sizeLine ∧ Q .non (put η a (.lst (xs ++ [y])))) := rfl
theorem m_extend {a b : Addr} {η : Sto} {Q : DK} : (mthD .extend (.ref a) [.ref b] η Q) = (∃ xs ys, η a = some (.lst xs) ∧ η b = some (.lst ys) ∧ xs.length + ys.length ≤ sizeLine ∧ Q .non (put η a (.lst (xs ++ ys)))) := rfl
theorem m_pop {a : Addr} {η : Sto} {Q : DK} : (mthD .pop (.ref a) [] η Q) = (∃ xs y, η a = some (.lst (xs ++ [y])) ∧ Q y (put η a (.lst xs))) := rfl
theorem st_ref {a : Addr} {i : Int} {v : D} {η : Sto} {Q : Sto → Prop} : (setD (.ref a) (.int i) v η Q) = (∃ xs j, η a = some (.lst xs) ∧ ixN xs.length i = some j ∧ Q (put η a (.lst (xs.set j v)))) := rfl
theorem it_tup {xs : List D} {η : Sto} {Q : List D → (Sto → Prop) → Sto → Prop} : (itD (.tup xs) η Q) = (Q xs (fun _ => True) η) := rfl
theorem it_rl {xs : List D} {η : Sto} {Q : List D → (Sto → Prop) → Sto → Prop} : (itD (.rl xs) η Q) = (Q xs (fun _ => True) η) := rfl
theorem it_ref {a : Addr} {η : Sto} {Q : List D → (Sto → Prop) → Sto → Prop} : (itD (.ref a) η Q) = (∃ xs, η a = some (.lst xs) ∧ Q xs (fun η' => η' a = some (.lst xs)) η) := rfl
theorem rg_1 {n : Int} {η : Sto} {Q : Int → Int → Sto → Prop} : (rgD [.int n] η Q) = (inR n ∧ Q 0 n η) := rfl
theorem rg_2 {a b : Int} {η : Sto} {Q : Int → Int → Sto → Prop} : (rgD [.int a, .int b] η Q) = (inR a ∧ inR b ∧ Q a b η) := rfl
theorem z_2 {x y : D} {η : Sto} {Q : List D → (Sto → Prop) → Sto → Prop} : (zipD [x, y] η Q) = (∃ xs ys, seqD x η xs ∧ seqD y η ys ∧ Q (zipL [xs, ys]) (fun η' => seqD x η' xs ∧ seqD y η' ys) η) := rfl
theorem z_3 {x y z : D} {η : Sto} {Q : List D → (Sto → Prop) → Sto → Prop} : (zipD [x, y, z] η Q) = (∃ xs ys zs, seqD x η xs ∧ seqD y η ys ∧ seqD z η zs ∧ Q (zipL [xs, ys, zs]) (fun η' => seqD x η' xs ∧ seqD y η' ys ∧ seqD z η' zs) η) := rfl
theorem dw_nil {δ : DSt} : (dwipe δ []) = (δ) := rfl
theorem dw_cons {δ : DSt} {v : Nat} {vs : List Nat} : (dwipe δ (v :: vs)) = ((dwipe δ vs).set v none) := rfl
theorem b_abs {i : Int} {η : Sto} {Q : DK} : (bltD .abs [.int i] η Q) = (Q (.int (if i < 0 then -i else i)) η) := rfl
theorem b_int {i : Int} {η : Sto} {Q : DK} : (bltD .int [.int i] η Q) = (Q (.int i) η) := rfl
theorem b_intb {b : Bool} {η : Sto} {Q : DK} : (bltD .int [.bl b] η Q) = (Q (.int (if b then 1 else 0)) η) := rfl
theorem b_stri {i : Int} {η : Sto} {Q : DK} : (bltD .str [.int i] η Q) = (i.natAbs.log2 < 1920 ∧ Q (.str (toString i)) η) := rfl
theorem b_repr {x : D} {η : Sto} {Q : DK} : (bltD .repr [x] η Q) = (∃ p, Pd η x p ∧ (p.showable = true ∧ (p.hasDict = false ∨ noLst p = true) ∧ p.depth ≤ 60) ∧ p.shown.length ≤ sizeLine ∧ Q (.str p.shown) η) := rfl
theorem b_lent {xs : List D} {η : Sto} {Q : DK} : (bltD .len [.tup xs] η Q) = (∃ ys, seqD (.tup xs) η ys ∧ Q (.int ys.length) η) := rfl
theorem b_lenr {a : Addr} {η : Sto} {Q : DK} : (bltD .len [.ref a] η Q) = (∃ ys, seqD (.ref a) η ys ∧ Q (.int ys.length) η) := rfl
theorem b_lenl {xs : List D} {η : Sto} {Q : DK} : (bltD .len [.rl xs] η Q) = (∃ ys, seqD (.rl xs) η ys ∧ Q (.int ys.length) η) := rfl
theorem b_tuple {x : D} {η : Sto} {Q : DK} : (bltD .tuple [x] η Q) = (∃ xs, seqD x η xs ∧ Q (.tup xs) η) := rfl
theorem b_list {x : D} {η : Sto} {Q : DK} : (bltD .list [x] η Q) = (∃ xs, seqD x η xs ∧ ∀ p, η p = none → Q (.ref p) (put η p (.lst xs))) := rfl
theorem b_all {x : D} {η : Sto} {Q : DK} : (bltD .all [x] η Q) = (∃ bs : List Bool, lstD x η (bs.map .bl) ∧ Q (.bl (bs.all id)) η) := rfl
theorem b_any {x : D} {η : Sto} {Q : DK} : (bltD .any [x] η Q) = (∃ bs : List Bool, lstD x η (bs.map .bl) ∧ Q (.bl (bs.any id)) η) := rfl
theorem b_sum {x : D} {η : Sto} {Q : DK} : (bltD .sum [x] η Q) = (∃ ns : List Int, lstD x η (ns.map .int) ∧ Q (.int ns.sum) η) := rfl
theorem b_max {i j : Int} {η : Sto} {Q : DK} : (bltD .max [.int i, .int j] η Q) = (Q (.int (if j > i then j else i)) η) := rfl
theorem b_min {i j : Int} {η : Sto} {Q : DK} : (bltD .min [.int i, .int j] η Q) = (Q (.int (if j < i then j else i)) η) := rfl
theorem b_sorted {x : D} {η : Sto} {Q : DK} : (bltD .sorted [x] η Q) = (∃ xs, lstD x η xs ∧ (xs.length ≤ 1 ∧ (∀ p, η p = none → Q (.ref p) (put η p (.lst xs))) ∨ ∃ ps, Pds η xs ps ∧ PySem.W.AllAlike ps ∧ PySem.W.Sortable ps ∧ (∀ q ∈ ps, q.depth ≤ 60) ∧ ∀ p, η p = none → Q (.ref p) (put η p (.lst (((xs.zip ps).mergeSort (PySem.W.dataLe false Prod.snd)).map Prod.fst))))) := rfl
end DL

set_option Elab.async false
set_option linter.all false
set_option maxRecDepth 100000
set_option maxHeartbeats 4000000
/-! DLS: small lemmas for readings: ends, subscripts, loops by invariants. -/
namespace DL
open PySem PySem.Spec PyProof.Rows L2
section
variable {Q : DK} {d : D} {η η2 : Sto}
theorem ret_of (h : Q d η) : (retE Q).rt d η := ⟨η, Sub.refl η, h⟩
theorem ret_sub (s : Sub η2 η) (h : Q d η2) : (retE Q).rt d η := ⟨η2, s, h⟩
theorem nx_of {δ : DSt} (h : Q .non η) : (retE Q).nx δ η := ⟨η, Sub.refl η, h⟩
theorem nx_sub {δ : DSt} (s : Sub η2 η) (h : Q .non η2) : (retE Q).nx δ η := ⟨η2, s, h⟩
end
theorem ex_some {α : Type} {a : α} {p : α → Prop} : (∃ d, (some (some a) : Option (Option α)) = some (some d) ∧ p d) ↔ p a := by simp
theorem ex_bl {b : Bool} {p : Bool → Prop} : (∃ c, D.bl b = D.bl c ∧ p c) ↔ p b := by simp
theorem ex_int {b : Int} {p : Int → Prop} : (∃ c, D.int b = D.int c ∧ p c) ↔ p b := by simp
theorem ex_eq {α : Type} {b : α} {p : α → Prop} : (∃ c, c = b ∧ p c) ↔ p b := by simp
theorem cut_to (xs : List D) (i : Nat) : cut xs none (some (i : Int)) = xs.take i := by
  unfold cut
  rw [HT.sIx_none, HT.sIx_nat, Nat.sub_zero, List.drop_zero]
  rcases Nat.le_total i xs.length with h | h
  · rw [Nat.min_eq_left h]
  · rw [Nat.min_eq_right h, List.take_length, List.take_of_length_le h]
theorem cut_from (xs : List D) (i : Nat) : cut xs (some (i : Int)) none = xs.drop i := by
  unfold cut
  rw [HT.sIx_none, HT.sIx_nat]
  rcases Nat.le_total i xs.length with h | h
  · rw [Nat.min_eq_left h, List.take_of_length_le (by rw [List.length_drop]; omega)]
  · rw [Nat.min_eq_right h, List.drop_length, List.drop_of_length_le h, List.take_nil]
theorem cut_mid (xs : List D) (i j : Nat) : cut xs (some (i : Int)) (some (j : Int)) = (xs.take j).drop i := by
  unfold cut
  rw [HT.sIx_nat, HT.sIx_nat, List.drop_take]
  rcases Nat.le_total i xs.length with h | h
  · rw [Nat.min_eq_left h]
    rcases Nat.le_total j xs.length with h2 | h2
    · rw [Nat.min_eq_left h2]
    · rw [Nat.min_eq_right h2, List.take_of_length_le (by rw [List.length_drop]; omega), List.take_of_length_le (by rw [List.length_drop]; omega)]
  · rw [Nat.min_eq_right h, List.drop_length, List.drop_of_length_le h, List.take_nil, List.take_nil]
/-! ### loops -/
section
variable {C : Calls} {G : Str → Option D} (hC : MoC C)
include hC
theorem for_of {t : Tg} {b : Ss} {gd : Sto → Prop} {L : List D} {E : DEnds} (J : Nat → DSt → Sto → Prop)
    (step : ∀ i x δ η, L[i]? = some x → J i δ η → gd η ∧ rdG C G t x δ η fun δ2 η2 => rdSs C G b { E with nx := J (i + 1), ct := J (i + 1), bk := E.nx } δ2 η2)
    (fin : ∀ δ η, J L.length δ η → gd η ∧ E.nx δ η) {δ : DSt} {η : Sto} (h : J 0 δ η) : forR C G t b gd L E δ η := by
  have go : ∀ k i δ η, L.length - i = k → i ≤ L.length → J i δ η → forLoop (rdG C G t) (rdSs C G b) gd (L.drop i) E δ η := by
    intro k
    induction k with
    | zero =>
      intro i δ η e hi hj
      have e2 : i = L.length := by omega
      rw [e2, List.drop_length]
      rw [e2] at hj
      exact fin δ η hj
    | succ k ih =>
      intro i δ η e hi hj
      have hlt : i < L.length := by omega
      rw [drop_at hlt]
      obtain ⟨g, h⟩ := step i L[i] δ η (by simp [hlt]) hj
      refine ⟨g, mo_G hC t _ _ _ _ _ (fun δ2 η2 h2 => mo_Ss hC b δ2 η2 { E with nx := J (i + 1), ct := J (i + 1), bk := E.nx } _ ⟨fun δ3 η3 h3 => ?_, fun _ _ h => h, fun _ _ h => h, fun δ3 η3 h3 => ?_⟩ h2) h⟩
      · exact ih (i + 1) δ3 η3 (by omega) hlt h3
      · exact ih (i + 1) δ3 η3 (by omega) hlt h3
  have q := go L.length 0 δ η (by omega) (Nat.zero_le _) h
  rw [List.drop_zero] at q
  exact q
theorem whl_more {c : E} {b : Ss} {E' : DEnds} : ∀ (n m : Nat) (δ : DSt) (η : Sto), n ≤ m → whlLoop (rdT C G c) (rdSs C G b) n E' δ η → whlLoop (rdT C G c) (rdSs C G b) m E' δ η
  | 0, _, _, _, _, h => h.elim
  | n + 1, 0, _, _, h, _ => by omega
  | n + 1, m + 1, δ, η, hm, h => mo_T hC c _ _ _ _ (fun k η1 q => by
      cases k with
      | false => simpa using q
      | true =>
        simp only [if_true] at q ⊢
        exact mo_Ss hC b δ η1 { E' with nx := fun δ η => whlLoop (rdT C G c) (rdSs C G b) n E' δ η, ct := fun δ η => whlLoop (rdT C G c) (rdSs C G b) n E' δ η, bk := E'.nx } _ ⟨fun δ2 η2 q => whl_more n m δ2 η2 (by omega) q, fun _ _ q => q, fun _ _ q => q, fun δ2 η2 q => whl_more n m δ2 η2 (by omega) q⟩ q) h
theorem whl_of {c : E} {b : Ss} {E' : DEnds} (J : Nat → DSt → Sto → Prop)
    (step : ∀ k δ η, J k δ η → rdT C G c δ η fun t η1 => if t = true then rdSs C G b { E' with nx := fun δ2 η2 => ∃ k', k' < k ∧ J k' δ2 η2, ct := fun δ2 η2 => ∃ k', k' < k ∧ J k' δ2 η2, bk := E'.nx } δ η1 else E'.nx δ η1)
    {k : Nat} {δ : DSt} {η : Sto} (h : J k δ η) : whlR C G c b E' δ η := by
  have go : ∀ k δ η, J k δ η → whlLoop (rdT C G c) (rdSs C G b) (k + 1) E' δ η := by
    intro k
    induction k using Nat.strongRecOn with
    | ind k ih =>
      intro δ η hj
      refine mo_T hC c _ _ _ _ (fun t η1 q => ?_) (step k δ η hj)
      cases t with
      | false => simpa using q
      | true =>
        simp only [if_true] at q ⊢
        exact mo_Ss hC b δ η1 { E' with nx := fun δ2 η2 => ∃ k', k' < k ∧ J k' δ2 η2, ct := fun δ2 η2 => ∃ k', k' < k ∧ J k' δ2 η2, bk := E'.nx } _ ⟨fun δ2 η2 ⟨k', hk, q⟩ => whl_more hC _ _ δ2 η2 (by omega) (ih k' hk δ2 η2 q), fun _ _ q => q, fun _ _ q => q, fun δ2 η2 ⟨k', hk, q⟩ => whl_more hC _ _ δ2 η2 (by omega) (ih k' hk δ2 η2 q)⟩ q
  exact ⟨k + 1, go k δ η h⟩
/-- a comprehension whose block leaves all else as it is -/
theorem lc_of {t : Tg} {ifs : Es} {elt : E} {δ : DSt} {gd : Sto → Prop} {p : Addr} {L : List D} {Q : Sto → Prop} (η : Sto) (f : D → Option D)
    (hgd : ∀ acc, gd (put η p (.lst acc)))
    (hb : ∀ x ∈ L, ∀ acc, rdG C G t x δ (put η p (.lst acc)) fun δ2 η2 => η2 = put η p (.lst acc) ∧ rdTs C G ifs δ2 (put η p (.lst acc)) fun b η3 => η3 = put η p (.lst acc) ∧
      ((b = false ∧ f x = none) ∨ (b = true ∧ rdE C G elt δ2 (put η p (.lst acc)) fun d η4 => f x = some d ∧ η4 = put η p (.lst acc))))
    (hl : L.length ≤ sizeLine) (hQ : Q (put η p (.lst (L.filterMap f)))) : lcR C G t ifs elt δ gd p L (put η p (.lst [])) Q := by
  have go : ∀ (L : List D) (acc : List D), (∀ x ∈ L, ∀ acc, rdG C G t x δ (put η p (.lst acc)) fun δ2 η2 => η2 = put η p (.lst acc) ∧ rdTs C G ifs δ2 (put η p (.lst acc)) fun b η3 => η3 = put η p (.lst acc) ∧
      ((b = false ∧ f x = none) ∨ (b = true ∧ rdE C G elt δ2 (put η p (.lst acc)) fun d η4 => f x = some d ∧ η4 = put η p (.lst acc)))) → acc.length + L.length ≤ sizeLine → Q (put η p (.lst (acc ++ L.filterMap f))) →
      lcLoop (rdG C G t) (rdTs C G ifs) (rdE C G elt) δ gd p L (put η p (.lst acc)) Q := by
    intro L
    induction L with
    | nil => intro acc _ _ hq; exact ⟨hgd acc, by simpa using hq⟩
    | cons x L ih =>
      intro acc hb hl hq
      refine ⟨hgd acc, mo_G hC t _ _ _ _ _ (fun δ2 η2 ⟨e2, h2⟩ => ?_) (hb x List.mem_cons_self acc)⟩
      subst e2
      refine mo_Ts hC ifs _ _ _ _ (fun b η3 ⟨e3, h3⟩ => ?_) h2
      subst e3
      rcases h3 with ⟨e, hx⟩ | ⟨e, h4⟩
      · subst e
        simp only [Bool.false_eq_true, if_false]
        refine ih acc (fun y hy => hb y (List.mem_cons_of_mem _ hy)) (by simp at hl; omega) ?_
        rw [List.filterMap_cons, hx] at hq
        exact hq
      · subst e
        simp only [if_true]
        refine mo_E hC elt _ _ _ _ (fun d η4 ⟨hx, e4⟩ => ?_) h4
        subst e4
        refine ⟨acc, put_same, by simp at hl; omega, ?_⟩
        rw [put_put]
        refine ih (acc ++ [d]) (fun y hy => hb y (List.mem_cons_of_mem _ hy)) (by simp at hl ⊢; omega) ?_
        rw [List.filterMap_cons, hx] at hq
        simpa using hq
  exact go L [] hb (by simpa using hl) (by simpa using hQ)
end
theorem seq_lst {η : Sto} {p : Addr} {xs : List D} : seqD (.ref p) (put η p (.lst xs)) xs := put_same
theorem lstD_put {η : Sto} {p : Addr} {xs : List D} : lstD (.ref p) (put η p (.lst xs)) xs := put_same
theorem filterMap_map {α β : Type} (f : α → β) (l : List α) : l.filterMap (fun x => some (f x)) = l.map f := by
  induction l with
  | nil => rfl
  | cons x l ih => rw [List.filterMap_cons, ih]; rfl
end DL

set_option Elab.async false
set_option linter.all false
set_option maxRecDepth 100000
set_option maxHeartbeats 4000000
/-! DLP: plain data: what is small, how long it shows, ints. -/
namespace DL
open PySem PySem.Spec PyProof.Rows L2
mutual
def Sm : PyData → Bool
  | .none => true
  | .bool _ => true
  | .int i => decide (-150 ≤ i ∧ i ≤ 150)
  | .str x => decide ((PyData.shown (.str x)).length ≤ 60)
  | .list xs => Sms xs
  | .tuple xs => Sms xs
  | .dict _ => false
def Sms : List PyData → Bool
  | [] => true
  | x :: xs => Sm x && Sms xs
end
mutual
def wt : PyData → Nat
  | .list xs => wts xs + 1
  | .tuple xs => wts xs + 1
  | _ => 1
def wts : List PyData → Nat
  | [] => 0
  | x :: xs => wt x + wts xs
end
theorem int_shown {i : Int} (h : -150 ≤ i ∧ i ≤ 150) : (PyData.shown (.int i)).length ≤ 60 := by
  have q : ∀ k : Fin 301, (PyData.shown (.int ((k.val : Int) - 150))).length ≤ 60 := by decide +kernel
  have e : i = (((⟨(i + 150).toNat, by omega⟩ : Fin 301).val : Int) - 150) := by show i = (((i + 150).toNat : Nat) : Int) - 150; omega
  rw [e]
  exact q _
theorem text_le : ∀ (ts : List Str) (k : Nat) (acc : Str), (textFrom k acc ts).length ≤ acc.length + piled ts
  | [], k, acc => by show acc.length ≤ acc.length + _; omega
  | t :: r, k, acc => by
    have q := text_le r (k + 1) (acc ++ (if k > 0 then ", " else "" : String) ++ t)
    have e : (textFrom k acc (t :: r)) = textFrom (k + 1) (acc ++ (if k > 0 then ", " else "" : String) ++ t) r := rfl
    have e2 : piled (t :: r) = t.length + 2 + piled r := by simp [piled]
    have e3 : ((if k > 0 then ", " else "" : String) : Str).length ≤ 2 := by split <;> decide
    rw [e, e2]
    rw [strLen_append, strLen_append] at q
    omega
theorem join_le (ts : List Str) : (Str.join ", " ts).length ≤ piled ts := by
  by_cases h : ts = []
  · subst h; decide
  · have := join_length_add ts h
    omega
mutual
theorem shown_le : ∀ p : PyData, Sm p = true → p.shown.length + 2 ≤ 70 * wt p
  | .none, _ => by decide
  | .bool b, _ => by cases b <;> decide
  | .int i, h => by
    have := int_shown (of_decide_eq_true h)
    simp only [wt]
    omega
  | .str x, h => by
    have := of_decide_eq_true h
    simp only [wt]
    omega
  | .list xs, h => by
    have q := shown_les xs (by simpa only [Sm] using h)
    simp only [wt, PyData.shown]
    have e : (listText (PyData.shownAll xs)).length ≤ 1 + piled (PyData.shownAll xs) + 1 := by
      unfold listText
      rw [strLen_append]
      have := text_le (PyData.shownAll xs) 0 "["
      have e1 : ((("[" : String)) : Str).length = 1 := by decide
      have e2 : ((("]" : String)) : Str).length = 1 := by decide
      omega
    omega
  | .tuple xs, h => by
    have q := shown_les xs (by simpa only [Sm] using h)
    simp only [wt, PyData.shown]
    have e : (tupleText (PyData.shownAll xs)).length ≤ 1 + piled (PyData.shownAll xs) + 2 := by
      unfold tupleText
      rw [strLen_append, strLen_append]
      have := join_le (PyData.shownAll xs)
      have e1 : ((("(" : String)) : Str).length = 1 := by decide
      have e2 : ((if (PyData.shownAll xs).length == 1 then ",)" else ")" : String) : Str).length ≤ 2 := by split <;> decide
      omega
    omega
  | .dict _, h => Bool.noConfusion h
theorem shown_les : ∀ xs : List PyData, Sms xs = true → piled (PyData.shownAll xs) ≤ 70 * wts xs
  | [], _ => by decide
  | x :: xs, h => by
    rw [Sms, Bool.and_eq_true] at h
    have q1 := shown_le x h.1
    have q2 := shown_les xs h.2
    have e2 : piled (PyData.shownAll (x :: xs)) = (PyData.shown x).length + 2 + piled (PyData.shownAll xs) := by simp [piled, PyData.shownAll]
    rw [e2, wts]
    omega
end
mutual
theorem Sm.showable : ∀ p : PyData, Sm p = true → p.showable = true ∧ p.hasDict = false
  | .none, _ => by simp [PyData.showable, PyData.hasDict]
  | .bool b, _ => by simp [PyData.showable, PyData.hasDict]
  | .int i, h => by
    have := of_decide_eq_true h
    refine ⟨?_, by simp [PyData.hasDict]⟩
    simp only [PyData.showable, decide_eq_true_eq]
    have h2 : i.natAbs < 2 ^ 8 := by omega
    exact Nat.lt_of_le_of_lt (Nat.log2_le_self _) (by omega)
  | .str x, h => by simp [PyData.showable, PyData.hasDict]
  | .list xs, h => by
    have q := Sms.showable xs (by simpa only [Sm] using h)
    simpa [PyData.showable, PyData.hasDict] using q
  | .tuple xs, h => by
    have q := Sms.showable xs (by simpa only [Sm] using h)
    simpa [PyData.showable, PyData.hasDict] using q
  | .dict _, h => Bool.noConfusion h
theorem Sms.showable : ∀ xs : List PyData, Sms xs = true → PyData.showableAll xs = true ∧ PyData.hasDictAll xs = false
  | [], _ => by simp [PyData.showableAll, PyData.hasDictAll]
  | x :: xs, h => by
    rw [Sms, Bool.and_eq_true] at h
    have q1 := Sm.showable x h.1
    have q2 := Sms.showable xs h.2
    simp [PyData.showableAll, PyData.hasDictAll, q1.1, q1.2, q2.1, q2.2]
end
/-- repr of small data -/
theorem repr_of {η : Sto} {x : D} {p : PyData} {Q : DK} (h : Pd η x p) (hs : Sm p = true) (hd : p.depth ≤ 60) (hw : wt p ≤ 200000) (hQ : Q (.str p.shown) η) : bltD .repr [x] η Q := by
  rw [b_repr]
  obtain ⟨h1, h2⟩ := Sm.showable p hs
  refine ⟨p, h, ⟨h1, .inl h2, hd⟩, ?_, hQ⟩
  have := shown_le p hs
  rw [sizeLine_eq]
  omega
/-! ### lists of data -/
theorem Sms_all : ∀ {xs : List PyData}, (∀ p ∈ xs, Sm p = true) → Sms xs = true
  | [], _ => rfl
  | x :: xs, h => by rw [Sms, h x List.mem_cons_self, Sms_all fun p hp => h p (List.mem_cons_of_mem _ hp)]; rfl
theorem wts_le {k : Nat} : ∀ {xs : List PyData}, (∀ p ∈ xs, wt p ≤ k) → wts xs ≤ k * xs.length
  | [], _ => by simp [wts]
  | x :: xs, h => by
    have q1 := h x List.mem_cons_self
    have q2 := wts_le (k := k) (xs := xs) fun p hp => h p (List.mem_cons_of_mem _ hp)
    rw [wts, List.length_cons, Nat.mul_succ]
    omega
theorem depth_le {k : Nat} : ∀ {xs : List PyData}, (∀ p ∈ xs, p.depth ≤ k) → PyData.depthAll xs ≤ k
  | [], _ => by simp [PyData.depthAll]
  | x :: xs, h => by
    simp only [PyData.depthAll]
    exact Nat.max_le.mpr ⟨h x List.mem_cons_self, depth_le fun p hp => h p (List.mem_cons_of_mem _ hp)⟩
theorem canLay_all : ∀ {xs : List PyData}, (∀ p ∈ xs, p.canLay0 = true) → PyData.canLayAll0 xs = true
  | [], _ => by simp [PyData.canLayAll0]
  | x :: xs, h => by
    simp only [PyData.canLayAll0, Bool.and_eq_true]
    exact ⟨h x List.mem_cons_self, canLay_all fun p hp => h p (List.mem_cons_of_mem _ hp)⟩
theorem Pds_map {α : Type} {η : Sto} {f : α → D} {g : α → PyData} : ∀ {l : List α}, (∀ a ∈ l, Pd η (f a) (g a)) → Pds η (l.map f) (l.map g)
  | [], _ => .nil
  | a :: l, h => .cons (h a List.mem_cons_self) (Pds_map fun b hb => h b (List.mem_cons_of_mem _ hb))
theorem eqvAll_map {α : Type} {g : α → PyData} (hg : ∀ a b, PyData.eqv (g a) (g b) = true ↔ a = b) : ∀ l m : List α, PyData.eqvAll (l.map g) (m.map g) = true ↔ l = m
  | [], [] => by simp [PyData.eqvAll]
  | [], b :: m => by simp [PyData.eqvAll]
  | a :: l, [] => by simp [PyData.eqvAll]
  | a :: l, b :: m => by
    simp only [List.map_cons, PyData.eqvAll, Bool.and_eq_true, hg, eqvAll_map hg l m, List.cons.injEq]
/-! ### tuples of ints -/
def pI (l : List Int) : PyData := .tuple (l.map .int)
theorem pd_tI {η : Sto} (l : List Int) : Pd η (.tup (l.map .int)) (pI l) := .tup (Pds_map fun a _ => .int a)
theorem eqv_int (a b : Int) : PyData.eqv (.int a) (.int b) = true ↔ a = b := by simp [PyData.eqv]
theorem eqv_pI (l m : List Int) : PyData.eqv (pI l) (pI m) = true ↔ l = m := by
  simp only [pI, PyData.eqv]
  exact eqvAll_map eqv_int l m
theorem eqv_pI' (l m : List Int) : PyData.eqv (pI l) (pI m) = decide (l = m) := by
  by_cases h : l = m
  · rw [(eqv_pI l m).mpr h]; simp [h]
  · have : PyData.eqv (pI l) (pI m) = false := by
      cases q : PyData.eqv (pI l) (pI m) with
      | false => rfl
      | true => exact absurd ((eqv_pI l m).mp q) h
    rw [this]; simp [h]
theorem depth_pI (l : List Int) : (pI l).depth ≤ 1 := by
  simp only [pI, PyData.depth]
  have : PyData.depthAll (l.map PyData.int) ≤ 0 := depth_le fun p hp => by
    obtain ⟨i, _, rfl⟩ := List.mem_map.mp hp
    simp [PyData.depth]
  omega
theorem shaped_pI (l : List Int) : SeqAt.shaped (pI l) = true := by
  unfold SeqAt.shaped
  rw [Bool.and_eq_true, decide_eq_true_eq]
  refine ⟨?_, by have := depth_pI l; omega⟩
  simp only [pI, PyData.canLay0]
  exact canLay_all fun p hp => by
    obtain ⟨i, _, rfl⟩ := List.mem_map.mp hp
    simp [PyData.canLay0]
theorem Sm_pI {l : List Int} (h : ∀ i ∈ l, -150 ≤ i ∧ i ≤ 150) : Sm (pI l) = true := by
  simp only [pI, Sm]
  exact Sms_all fun p hp => by
    obtain ⟨i, hi, rfl⟩ := List.mem_map.mp hp
    simp only [Sm, decide_eq_true_eq]
    exact h i hi
theorem wt_pI (l : List Int) : wt (pI l) ≤ l.length + 1 := by
  simp only [pI, wt]
  have : wts (l.map PyData.int) ≤ 1 * (l.map PyData.int).length := wts_le fun p hp => by
    obtain ⟨i, _, rfl⟩ := List.mem_map.mp hp
    simp [wt]
  rw [List.length_map] at this
  omega
/-- == of tuples of ints -/
theorem ceq_tI {η : Sto} {l m : List Int} {Q : Bool → Sto → Prop} (h : Q (decide (l = m)) η) : cmpD .eq (.tup (l.map .int)) (.tup (m.map .int)) η Q :=
  .inr (.inr ⟨_, _, pd_tI l, pd_tI m, shaped_pI l, shaped_pI m, by rw [eqv_pI']; exact h⟩)
theorem cne_i {η : Sto} {i j : Int} {Q : Bool → Sto → Prop} (h : Q (!decide (i = j)) η) : cmpD .ne (.int i) (.int j) η Q := .inl ⟨i, j, rfl, rfl, h⟩
theorem ceq_i {η : Sto} {i j : Int} {Q : Bool → Sto → Prop} (h : Q (decide (i = j)) η) : cmpD .eq (.int i) (.int j) η Q := .inl ⟨i, j, rfl, rfl, h⟩
theorem cne_s {η : Sto} {i j : Str} {Q : Bool → Sto → Prop} (h : Q (!decide (i = j)) η) : cmpD .ne (.str i) (.str j) η Q := .inr (.inl ⟨i, j, rfl, rfl, h⟩)
theorem ceq_s {η : Sto} {i j : Str} {Q : Bool → Sto → Prop} (h : Q (decide (i = j)) η) : cmpD .eq (.str i) (.str j) η Q := .inr (.inl ⟨i, j, rfl, rfl, h⟩)
theorem bits_le (x : Int) : Builtin.Int.intBits x ≤ x.natAbs.log2 + 1 := by
  unfold Builtin.Int.intBits
  split <;> omega
theorem mul_l {i j : Int} (h : i.natAbs < 2 ^ 63) : IntMulOk i j := IntMulOk.of_left (by
  have h1 := bits_le i
  have h2 : i.natAbs.log2 < 63 ∨ i.natAbs = 0 := by
    by_cases z : i.natAbs = 0
    · exact .inr z
    · exact .inl ((Nat.log2_lt z).mpr h)
  rcases h2 with h2 | h2
  · omega
  · rw [h2] at h1
    have : Nat.log2 0 = 0 := by decide
    omega)
theorem mul_r {i j : Int} (h : j.natAbs < 2 ^ 63) : IntMulOk i j := IntMulOk.of_right (by
  have h1 := bits_le j
  have h2 : j.natAbs.log2 < 63 ∨ j.natAbs = 0 := by
    by_cases z : j.natAbs = 0
    · exact .inr z
    · exact .inl ((Nat.log2_lt z).mpr h)
  rcases h2 with h2 | h2
  · omega
  · rw [h2] at h1
    have : Nat.log2 0 = 0 := by decide
    omega)
end DL

set_option Elab.async false
set_option linter.all false
set_option maxRecDepth 100000
set_option maxHeartbeats 4000000
/-! DLT: a comprehension whose parts change the store. -/
namespace DL
open PySem PySem.Spec PyProof.Rows L2
section
variable {C : Calls} {G : Str → Option D} (hC : MoC C)
include hC
theorem lc_inv {t : Tg} {ifs : Es} {elt : E} {δ : DSt} {gd : Sto → Prop} {p : Addr} {L : List D} {Q : Sto → Prop} (J : Nat → Sto → Prop)
    (step : ∀ i x η, L[i]? = some x → J i η → gd η ∧ rdG C G t x δ η fun δ2 η2 => rdTs C G ifs δ2 η2 fun b η3 => if b = true then rdE C G elt δ2 η3 fun d η4 => ∃ acc, η4 p = some (.lst acc) ∧ acc.length < sizeLine ∧ J (i + 1) (put η4 p (.lst (acc ++ [d]))) else J (i + 1) η3)
    (fin : ∀ η, J L.length η → gd η ∧ Q η) {η : Sto} (h : J 0 η) : lcR C G t ifs elt δ gd p L η Q := by
  have go : ∀ k i η, L.length - i = k → i ≤ L.length → J i η → lcLoop (rdG C G t) (rdTs C G ifs) (rdE C G elt) δ gd p (L.drop i) η Q := by
    intro k
    induction k with
    | zero =>
      intro i η e hi hj
      have e2 : i = L.length := by omega
      rw [e2, List.drop_length]
      rw [e2] at hj
      exact fin η hj
    | succ k ih =>
      intro i η e hi hj
      have hlt : i < L.length := by omega
      rw [drop_at hlt]
      obtain ⟨g, h⟩ := step i L[i] η (by simp [hlt]) hj
      refine ⟨g, mo_G hC t _ _ _ _ _ (fun δ2 η2 h2 => mo_Ts hC ifs _ _ _ _ (fun b η3 h3 => ?_) h2) h⟩
      cases b with
      | false =>
        simp only [Bool.false_eq_true, if_false] at h3 ⊢
        exact ih (i + 1) η3 (by omega) hlt h3
      | true =>
        simp only [if_true] at h3 ⊢
        refine mo_E hC elt _ _ _ _ (fun d η4 ⟨acc, k1, k2, k3⟩ => ⟨acc, k1, k2, ?_⟩) h3
        exact ih (i + 1) _ (by omega) hlt k3
  have q := go L.length 0 η (by omega) (Nat.zero_le _) h
  rw [List.drop_zero] at q
  exact q
end
end DL

set_option Elab.async false
set_option linter.all false
set_option maxRecDepth 100000
set_option maxHeartbeats 0
namespace K43
open PySem PySem.Spec PyProof.Rows L2 DL
def top (i : Nat) : Stmt := PySem.Challenge.pw_whichside_k43_whole_words_and_steps.main.body.getD i (.Pass ⟨0, 0, 0, 0⟩)
-- is_integer: 0=value
def o_is_integer : Ss := (.cons (.ret (.and (.isI (.var 0) "int") (.not (.isI (.var 0) "bool")))) .nil)
def f_is_integer : Fd := ⟨(Str.ofString "is_integer"), [(Str.ofString "value")], [(Str.ofString "value")], defArgs (top 5), defBody (top 5), defScope (top 5), o_is_integer⟩
-- is_between: 0=value 1=least 2=most
def o_is_between : Ss := (.cons (.ret (.and (.call (Str.ofString "is_integer") (.cons (.var 0) .nil)) (.chn .le .le (.var 1) (.var 0) (.var 2)))) .nil)
def f_is_between : Fd := ⟨(Str.ofString "is_between"), [(Str.ofString "value"), (Str.ofString "least"), (Str.ofString "most")], [(Str.ofString "value"), (Str.ofString "least"), (Str.ofString "most")], defArgs (top 6), defBody (top 6), defScope (top 6), o_is_between⟩
-- check_many: 0=many 1=most
def o_check_many : Ss := (.cons (.ife (.not (.call (Str.ofString "is_between") (.cons (.var 0) (.cons (.int 1) (.cons (.var 1) .nil))))) (.cons .never .nil) .nil) .nil)
def f_check_many : Fd := ⟨(Str.ofString "check_many"), [(Str.ofString "many"), (Str.ofString "most")], [(Str.ofString "many"), (Str.ofString "most")], defArgs (top 10), defBody (top 10), defScope (top 10), o_check_many⟩
-- exchanged: 0=row 1=at
def o_exchanged : Ss := (.cons (.ret (.tup (.star (.slc (.var 0) .no (.yes (.var 1))) (.cons (.idx (.var 0) (.bin .add (.var 1) (.int 1))) (.cons (.idx (.var 0) (.var 1)) (.star (.slc (.var 0) (.yes (.bin .add (.var 1) (.int 2))) .no) .nil)))))) .nil)
def f_exchanged : Fd := ⟨(Str.ofString "exchanged"), [(Str.ofString "row"), (Str.ofString "at")], [(Str.ofString "row"), (Str.ofString "at")], defArgs (top 11), defBody (top 11), defScope (top 11), o_exchanged⟩
-- rows_by: 0=many 1=word 2=found 3=at
def o_rows_by : Ss := (.cons (.asg (.name 2) (.lst (.cons (.rng true (.cons (.var 0) .nil)) .nil))) (.cons (.for_ (.name 3) (.of (.var 1)) (.cons (.ex (.mth .append (.var 2) (.cons (.call (Str.ofString "exchanged") (.cons (.idx (.var 2) (.neg (.int 1))) (.cons (.var 3) .nil))) .nil))) .nil)) (.cons (.ret (.var 2)) .nil)))
def f_rows_by : Fd := ⟨(Str.ofString "rows_by"), [(Str.ofString "many"), (Str.ofString "word")], [(Str.ofString "many"), (Str.ofString "word"), (Str.ofString "found"), (Str.ofString "at")], defArgs (top 12), defBody (top 12), defScope (top 12), o_rows_by⟩
-- is_word_of: 0=many 1=value 2=at
def o_is_word_of : Ss := (.cons (.ife (.or (.not (.isI (.var 1) "tuple")) (.cmp .ne (.blt .len (.cons (.var 1) .nil)) (.bin .fdiv (.bin .mul (.var 0) (.bin .sub (.var 0) (.int 1))) (.int 2)))) (.cons (.ret (.bl false)) .nil) .nil) (.cons (.ife (.not (.blt .all (.cons (.lc (.call (Str.ofString "is_between") (.cons (.var 2) (.cons (.int 0) (.cons (.bin .sub (.var 0) (.int 2)) .nil)))) (.name 2) (.of (.var 1)) .nil [2]) .nil))) (.cons (.ret (.bl false)) .nil) .nil) (.cons (.ret (.cmp .eq (.idx (.call (Str.ofString "rows_by") (.cons (.var 0) (.cons (.var 1) .nil))) (.neg (.int 1))) (.rev (.rng true (.cons (.var 0) .nil))))) .nil)))
def f_is_word_of : Fd := ⟨(Str.ofString "is_word_of"), [(Str.ofString "many"), (Str.ofString "value")], [(Str.ofString "many"), (Str.ofString "value"), (Str.ofString "at")], defArgs (top 13), defBody (top 13), defScope (top 13), o_is_word_of⟩
-- is_word: 0=many 1=value
def o_is_word : Ss := (.cons (.ex (.call (Str.ofString "check_many") (.cons (.var 0) (.cons (.glo (Str.ofString "MOST_MANY")) .nil)))) (.cons (.ret (.call (Str.ofString "is_word_of") (.cons (.var 0) (.cons (.var 1) .nil)))) .nil))
def f_is_word : Fd := ⟨(Str.ofString "is_word"), [(Str.ofString "many"), (Str.ofString "value")], [(Str.ofString "many"), (Str.ofString "value")], defArgs (top 14), defBody (top 14), defScope (top 14), o_is_word⟩
-- check_word: 0=many 1=value
def o_check_word : Ss := (.cons (.ife (.not (.call (Str.ofString "is_word_of") (.cons (.var 0) (.cons (.var 1) .nil)))) (.cons .never .nil) .nil) .nil)
def f_check_word : Fd := ⟨(Str.ofString "check_word"), [(Str.ofString "many"), (Str.ofString "value")], [(Str.ofString "many"), (Str.ofString "value")], defArgs (top 15), defBody (top 15), defScope (top 15), o_check_word⟩
-- words_of: 0=many 1=found 2=waiting 3=at 4=word 5=row
def o_words_of : Ss := (.cons (.par 1 2 (.lst .nil) (.lst (.cons (.tup (.cons (.tup .nil) (.cons (.rng true (.cons (.var 0) .nil)) .nil))) .nil))) (.cons (.whl (.cmp .ne (.var 2) (.lst .nil)) (.cons (.asg (.tup (.cons (.name 4) (.cons (.name 5) .nil))) (.mth .pop (.var 2) .nil)) (.cons (.ife (.cmp .eq (.blt .len (.cons (.var 4) .nil)) (.bin .fdiv (.bin .mul (.var 0) (.bin .sub (.var 0) (.int 1))) (.int 2))) (.cons (.ex (.mth .append (.var 1) (.cons (.var 4) .nil))) .nil) .nil) (.cons (.for_ (.name 3) (.rng (.cons (.bin .sub (.var 0) (.int 1)) .nil)) (.cons (.ife (.cmp .lt (.idx (.var 5) (.var 3)) (.idx (.var 5) (.bin .add (.var 3) (.int 1)))) (.cons (.ex (.mth .append (.var 2) (.cons (.tup (.cons (.bin .add (.var 4) (.tup (.cons (.var 3) .nil))) (.cons (.call (Str.ofString "exchanged") (.cons (.var 5) (.cons (.var 3) .nil))) .nil))) .nil))) .nil) .nil) .nil)) .nil)))) (.cons (.ret (.blt .sorted (.cons (.var 1) .nil))) .nil)))
def f_words_of : Fd := ⟨(Str.ofString "words_of"), [(Str.ofString "many")], [(Str.ofString "many"), (Str.ofString "found"), (Str.ofString "waiting"), (Str.ofString "at"), (Str.ofString "word"), (Str.ofString "row")], defArgs (top 16), defBody (top 16), defScope (top 16), o_words_of⟩
-- words: 0=many
def o_words : Ss := (.cons (.ex (.call (Str.ofString "check_many") (.cons (.var 0) (.cons (.glo (Str.ofString "MOST_TOLD")) .nil)))) (.cons (.ret (.blt .tuple (.cons (.call (Str.ofString "words_of") (.cons (.var 0) .nil)) .nil))) .nil))
def f_words : Fd := ⟨(Str.ofString "words"), [(Str.ofString "many")], [(Str.ofString "many")], defArgs (top 17), defBody (top 17), defScope (top 17), o_words⟩
-- drawn: 0=many 1=word
def o_drawn : Ss := (.cons (.ex (.call (Str.ofString "check_many") (.cons (.var 0) (.cons (.glo (Str.ofString "MOST_MANY")) .nil)))) (.cons (.ex (.call (Str.ofString "check_word") (.cons (.var 0) (.cons (.var 1) .nil)))) (.cons (.ret (.blt .tuple (.cons (.call (Str.ofString "rows_by") (.cons (.var 0) (.cons (.var 1) .nil))) .nil))) .nil)))
def f_drawn : Fd := ⟨(Str.ofString "drawn"), [(Str.ofString "many"), (Str.ofString "word")], [(Str.ofString "many"), (Str.ofString "word")], defArgs (top 18), defBody (top 18), defScope (top 18), o_drawn⟩
-- steps_apart: 0=word 1=found 2=at 3=one 4=other
def o_steps_apart : Ss := (.cons (.asg (.name 1) (.lst .nil)) (.cons (.for_ (.tup (.cons (.name 2) (.cons (.tup (.cons (.name 3) (.cons (.name 4) .nil))) .nil))) (.enm (.zip (.cons (.var 0) (.cons (.slc (.var 0) (.yes (.int 1)) .no) .nil)))) (.cons (.ife (.cmp .gt (.blt .abs (.cons (.bin .sub (.var 3) (.var 4)) .nil)) (.int 1)) (.cons (.ex (.mth .append (.var 1) (.cons (.tup (.star (.slc (.var 0) .no (.yes (.var 2))) (.cons (.var 4) (.cons (.var 3) (.star (.slc (.var 0) (.yes (.bin .add (.var 2) (.int 2))) .no) .nil))))) .nil))) .nil) .nil) .nil)) (.cons (.ret (.var 1)) .nil)))
def f_steps_apart : Fd := ⟨(Str.ofString "steps_apart"), [(Str.ofString "word")], [(Str.ofString "word"), (Str.ofString "found"), (Str.ofString "at"), (Str.ofString "one"), (Str.ofString "other")], defArgs (top 19), defBody (top 19), defScope (top 19), o_steps_apart⟩
-- steps_of: 0=word 1=found 2=at 3=one 4=other 5=last
def o_steps_of : Ss := (.cons (.asg (.name 1) (.call (Str.ofString "steps_apart") (.cons (.var 0) .nil))) (.cons (.for_ (.tup (.cons (.name 2) (.cons (.tup (.cons (.name 3) (.cons (.name 4) (.cons (.name 5) .nil)))) .nil))) (.enm (.zip (.cons (.var 0) (.cons (.slc (.var 0) (.yes (.int 1)) .no) (.cons (.slc (.var 0) (.yes (.int 2)) .no) .nil))))) (.cons (.ife (.and (.cmp .eq (.var 3) (.var 5)) (.cmp .eq (.blt .abs (.cons (.bin .sub (.var 3) (.var 4)) .nil)) (.int 1))) (.cons (.ex (.mth .append (.var 1) (.cons (.tup (.star (.slc (.var 0) .no (.yes (.var 2))) (.cons (.var 4) (.cons (.var 3) (.cons (.var 4) (.star (.slc (.var 0) (.yes (.bin .add (.var 2) (.int 3))) .no) .nil)))))) .nil))) .nil) .nil) .nil)) (.cons (.ret (.blt .sorted (.cons (.var 1) .nil))) .nil)))
def f_steps_of : Fd := ⟨(Str.ofString "steps_of"), [(Str.ofString "word")], [(Str.ofString "word"), (Str.ofString "found"), (Str.ofString "at"), (Str.ofString "one"), (Str.ofString "other"), (Str.ofString "last")], defArgs (top 20), defBody (top 20), defScope (top 20), o_steps_of⟩
-- next_words: 0=many 1=word
def o_next_words : Ss := (.cons (.ex (.call (Str.ofString "check_many") (.cons (.var 0) (.cons (.glo (Str.ofString "MOST_MANY")) .nil)))) (.cons (.ex (.call (Str.ofString "check_word") (.cons (.var 0) (.cons (.var 1) .nil)))) (.cons (.ret (.blt .tuple (.cons (.call (Str.ofString "steps_of") (.cons (.var 1) .nil)) .nil))) .nil)))
def f_next_words : Fd := ⟨(Str.ofString "next_words"), [(Str.ofString "many"), (Str.ofString "word")], [(Str.ofString "many"), (Str.ofString "word")], defArgs (top 21), defBody (top 21), defScope (top 21), o_next_words⟩
-- _law_pot: 0=script 1=place 2=cell 3=own 4=small
def o__law_pot : Ss := (.cons (.asg (.name 2) (.ife (.cmp .lt (.var 1) (.blt .len (.cons (.var 0) .nil))) (.idx (.var 0) (.var 1)) (.bin .add (.bin .add (.bin .mod (.blt .sum (.cons (.slc (.var 0) .no (.yes (.int 1))) .nil)) (.int 1000003)) (.bin .mul (.int 8967) (.var 1))) (.int 5895)))) (.cons (.asg (.name 3) (.bin .mul (.bin .mod (.blt .int (.cons (.blt .abs (.cons (.var 2) .nil)) .nil)) (.bin .pow (.bin .pow (.int 10) (.int 60)) (.int 5))) (.blt .int (.cons (.cmp .ge (.blt .abs (.cons (.var 2) .nil)) (.bin .pow (.int 10) (.int 18))) .nil)))) (.cons (.asg (.name 4) (.bin .mod (.blt .int (.cons (.var 2) .nil)) (.int 2305843009213693951))) (.cons (.ret (.lst (.cons (.var 3) (.cons (.bin .mod (.blt .int (.cons (.bin .add (.bin .add (.bin .mul (.var 4) (.int 70143)) (.bin .mul (.bin .mul (.int 6075) (.var 1)) (.var 1))) (.int 1655)) .nil)) (.int 2305843009213693921)) (.cons (.int 0) .nil))))) .nil))))
def f__law_pot : Fd := ⟨(Str.ofString "_law_pot"), [(Str.ofString "script"), (Str.ofString "place")], [(Str.ofString "script"), (Str.ofString "place"), (Str.ofString "cell"), (Str.ofString "own"), (Str.ofString "small")], defArgs (top 23), defBody (top 23), defScope (top 23), o__law_pot⟩
-- _law_take: 0=pot 1=upto 2=prime 3=blend 4=digit
def o__law_take : Ss := (.cons (.ife (.cmp .gt (.idx (.var 0) (.int 0)) (.int 0)) (.cons (.asg (.name 4) (.bin .mod (.blt .int (.cons (.idx (.var 0) (.int 0)) .nil)) (.var 1))) (.cons (.asg (.sub (.var 0) (.int 0)) (.bin .fdiv (.idx (.var 0) (.int 0)) (.var 1))) (.cons (.ret (.var 4)) .nil))) .nil) (.cons (.asg (.sub (.var 0) (.int 2)) (.bin .add (.idx (.var 0) (.int 2)) (.int 1))) (.cons (.asg (.name 2) (.idx (.lst (.cons (.int 2147483647) (.cons (.int 2147483629) (.cons (.int 2147483587) (.cons (.int 2147483579) (.cons (.int 2147483563) .nil)))))) (.bin .mod (.blt .int (.cons (.idx (.var 0) (.int 2)) .nil)) (.int 5)))) (.cons (.asg (.name 3) (.bin .mod (.blt .int (.cons (.bin .pow (.blt .int (.cons (.bin .add (.bin .add (.idx (.var 0) (.int 1)) (.bin .mul (.bin .mul (.int 98978) (.idx (.var 0) (.int 2))) (.idx (.var 0) (.int 2)))) (.int 1655)) .nil)) (.int 3)) .nil)) (.var 2))) (.cons (.asg (.name 3) (.bin .mod (.blt .int (.cons (.bin .mul (.var 3) (.bin .add (.bin .mod (.blt .int (.cons (.var 3) .nil)) (.int 14896)) (.bin .mul (.int 72) (.idx (.var 0) (.int 2))))) .nil)) (.int 2305843009213693907))) (.cons (.ret (.bin .mod (.blt .int (.cons (.bin .fdiv (.var 3) (.int 128)) .nil)) (.var 1))) .nil))))))
def f__law_take : Fd := ⟨(Str.ofString "_law_take"), [(Str.ofString "pot"), (Str.ofString "upto")], [(Str.ofString "pot"), (Str.ofString "upto"), (Str.ofString "prime"), (Str.ofString "blend"), (Str.ofString "digit")], defArgs (top 24), defBody (top 24), defScope (top 24), o__law_take⟩
-- _law_of: 0=pot 1=some
def o__law_of : Ss := (.cons (.ret (.idx (.var 1) (.call (Str.ofString "_law_take") (.cons (.var 0) (.cons (.blt .len (.cons (.var 1) .nil)) .nil))))) .nil)
def f__law_of : Fd := ⟨(Str.ofString "_law_of"), [(Str.ofString "pot"), (Str.ofString "some")], [(Str.ofString "pot"), (Str.ofString "some")], defArgs (top 25), defBody (top 25), defScope (top 25), o__law_of⟩
-- _law_cells: 0=script 1=limit
def o__law_cells : Ss := (.cons (.ret (.rng false (.cons (.blt .max (.cons (.int 1) (.cons (.blt .min (.cons (.var 1) (.cons (.blt .len (.cons (.var 0) .nil)) .nil))) .nil))) .nil))) .nil)
def f__law_cells : Fd := ⟨(Str.ofString "_law_cells"), [(Str.ofString "script"), (Str.ofString "limit")], [(Str.ofString "script"), (Str.ofString "limit")], defArgs (top 26), defBody (top 26), defScope (top 26), o__law_cells⟩
-- _law_rows: 0=many 1=word 2=found 3=at 4=row
def o__law_rows : Ss := (.cons (.asg (.name 2) (.lst (.cons (.rng false (.cons (.var 0) .nil)) .nil))) (.cons (.for_ (.name 3) (.of (.var 1)) (.cons (.asg (.name 4) (.blt .list (.cons (.idx (.var 2) (.neg (.int 1))) .nil))) (.cons (.asg (.tup (.cons (.sub (.var 4) (.var 3)) (.cons (.sub (.var 4) (.bin .add (.var 3) (.int 1))) .nil))) (.tup (.cons (.idx (.var 4) (.bin .add (.var 3) (.int 1))) (.cons (.idx (.var 4) (.var 3)) .nil)))) (.cons (.ex (.mth .append (.var 2) (.cons (.var 4) .nil))) .nil)))) (.cons (.ret (.lc (.blt .tuple (.cons (.var 4) .nil)) (.name 4) (.of (.var 2)) .nil [4])) .nil)))
def f__law_rows : Fd := ⟨(Str.ofString "_law_rows"), [(Str.ofString "many"), (Str.ofString "word")], [(Str.ofString "many"), (Str.ofString "word"), (Str.ofString "found"), (Str.ofString "at"), (Str.ofString "row")], defArgs (top 27), defBody (top 27), defScope (top 27), o__law_rows⟩
-- _law_is_word: 0=many 1=value 2=at
def o__law_is_word : Ss := (.cons (.ife (.or (.not (.isI (.var 1) "tuple")) (.cmp .ne (.bin .mul (.int 2) (.blt .len (.cons (.var 1) .nil))) (.bin .mul (.var 0) (.bin .sub (.var 0) (.int 1))))) (.cons (.ret (.bl false)) .nil) .nil) (.cons (.ife (.not (.blt .all (.cons (.lc (.and (.isI (.var 2) "int") (.and (.not (.isI (.var 2) "bool")) (.chn .le .lt (.int 0) (.var 2) (.bin .sub (.var 0) (.int 1))))) (.name 2) (.of (.var 1)) .nil [2]) .nil))) (.cons (.ret (.bl false)) .nil) .nil) (.cons (.ret (.cmp .eq (.idx (.call (Str.ofString "_law_rows") (.cons (.var 0) (.cons (.var 1) .nil))) (.neg (.int 1))) (.rev (.rng true (.cons (.var 0) .nil))))) .nil)))
def f__law_is_word : Fd := ⟨(Str.ofString "_law_is_word"), [(Str.ofString "many"), (Str.ofString "value")], [(Str.ofString "many"), (Str.ofString "value"), (Str.ofString "at")], defArgs (top 28), defBody (top 28), defScope (top 28), o__law_is_word⟩
-- _law_word: 0=pot 1=many 2=lap 3=row 4=found 5=at
def o__law_word : Ss := (.cons (.asg (.tup (.cons (.name 3) (.cons (.name 4) .nil))) (.tup (.cons (.rng false (.cons (.var 1) .nil)) (.cons (.lst .nil) .nil)))) (.cons (.for_ (.name 2) (.rng (.cons (.bin .fdiv (.bin .mul (.var 1) (.bin .sub (.var 1) (.int 1))) (.int 2)) .nil)) (.cons (.asg (.name 5) (.call (Str.ofString "_law_of") (.cons (.var 0) (.cons (.lc (.var 5) (.name 5) (.rng (.cons (.bin .sub (.var 1) (.int 1)) .nil)) (.cons (.cmp .lt (.idx (.var 3) (.var 5)) (.idx (.var 3) (.bin .add (.var 5) (.int 1)))) .nil) [5]) .nil)))) (.cons (.asg (.tup (.cons (.sub (.var 3) (.var 5)) (.cons (.sub (.var 3) (.bin .add (.var 5) (.int 1))) .nil))) (.tup (.cons (.idx (.var 3) (.bin .add (.var 5) (.int 1))) (.cons (.idx (.var 3) (.var 5)) .nil)))) (.cons (.ex (.mth .append (.var 4) (.cons (.blt .int (.cons (.var 5) .nil)) .nil))) .nil)))) (.cons (.ret (.blt .tuple (.cons (.var 4) .nil))) .nil)))
def f__law_word : Fd := ⟨(Str.ofString "_law_word"), [(Str.ofString "pot"), (Str.ofString "many")], [(Str.ofString "pot"), (Str.ofString "many"), (Str.ofString "lap"), (Str.ofString "row"), (Str.ofString "found"), (Str.ofString "at")], defArgs (top 29), defBody (top 29), defScope (top 29), o__law_word⟩
-- _law_steps: 0=word 1=apart 2=found 3=at
def o__law_steps : Ss := (.cons (.asg (.name 2) (.lst .nil)) (.cons (.for_ (.name 3) (.rng (.cons (.bin .sub (.blt .len (.cons (.var 0) .nil)) (.int 1)) .nil)) (.cons (.ife (.cmp .gt (.blt .abs (.cons (.bin .sub (.idx (.var 0) (.var 3)) (.idx (.var 0) (.bin .add (.var 3) (.int 1)))) .nil)) (.int 1)) (.cons (.ex (.mth .append (.var 2) (.cons (.bin .add (.bin .add (.slc (.var 0) .no (.yes (.var 3))) (.tup (.cons (.idx (.var 0) (.bin .add (.var 3) (.int 1))) (.cons (.idx (.var 0) (.var 3)) .nil)))) (.slc (.var 0) (.yes (.bin .add (.var 3) (.int 2))) .no)) .nil))) .nil) .nil) (.cons (.ife (.and (.not (.var 1)) (.and (.cmp .eq (.slc (.var 0) (.yes (.var 3)) (.yes (.bin .add (.var 3) (.int 1)))) (.slc (.var 0) (.yes (.bin .add (.var 3) (.int 2))) (.yes (.bin .add (.var 3) (.int 3))))) (.cmp .eq (.blt .abs (.cons (.bin .sub (.idx (.var 0) (.var 3)) (.idx (.var 0) (.bin .add (.var 3) (.int 1)))) .nil)) (.int 1)))) (.cons (.ex (.mth .append (.var 2) (.cons (.bin .add (.bin .add (.slc (.var 0) .no (.yes (.var 3))) (.tup (.cons (.idx (.var 0) (.bin .add (.var 3) (.int 1))) (.cons (.idx (.var 0) (.var 3)) (.cons (.idx (.var 0) (.bin .add (.var 3) (.int 1))) .nil))))) (.slc (.var 0) (.yes (.bin .add (.var 3) (.int 3))) .no)) .nil))) .nil) .nil) .nil))) (.cons (.ret (.blt .tuple (.cons (.blt .sorted (.cons (.var 2) .nil)) .nil))) .nil)))
def f__law_steps : Fd := ⟨(Str.ofString "_law_steps"), [(Str.ofString "word"), (Str.ofString "apart")], [(Str.ofString "word"), (Str.ofString "apart"), (Str.ofString "found"), (Str.ofString "at")], defArgs (top 30), defBody (top 30), defScope (top 30), o__law_steps⟩
-- _law_bent: 0=pot 1=value 2=way 3=at
def o__law_bent : Ss := (.cons (.ife (.and (.isI (.var 1) "tuple") (.and (.cmp .ne (.var 1) (.tup .nil)) (.cmp .gt (.call (Str.ofString "_law_take") (.cons (.var 0) (.cons (.int 5) .nil))) (.int 0)))) (.cons (.par 2 3 (.call (Str.ofString "_law_take") (.cons (.var 0) (.cons (.int 8) .nil))) (.call (Str.ofString "_law_take") (.cons (.var 0) (.cons (.blt .len (.cons (.var 1) .nil)) .nil)))) (.cons (.ife (.cmp .lt (.var 2) (.int 4)) (.cons (.ret (.bin .add (.bin .add (.slc (.var 1) .no (.yes (.var 3))) (.tup (.cons (.call (Str.ofString "_law_bent") (.cons (.var 0) (.cons (.idx (.var 1) (.var 3)) .nil))) .nil))) (.slc (.var 1) (.yes (.bin .add (.var 3) (.int 1))) .no))) .nil) .nil) (.cons (.ret (.idx (.lst (.cons (.bin .add (.slc (.var 1) .no (.yes (.var 3))) (.slc (.var 1) (.yes (.bin .add (.var 3) (.int 1))) .no)) (.cons (.bin .add (.slc (.var 1) .no (.yes (.bin .add (.var 3) (.int 1)))) (.slc (.var 1) (.yes (.var 3)) .no)) (.cons (.rev (.var 1)) (.cons (.blt .list (.cons (.var 1) .nil)) .nil))))) (.bin .sub (.var 2) (.int 4)))) .nil))) .nil) (.cons (.ife (.and (.isI (.var 1) "int") (.not (.isI (.var 1) "bool"))) (.cons (.ret (.call (Str.ofString "_law_of") (.cons (.var 0) (.cons (.lst (.cons (.bin .add (.var 1) (.int 1)) (.cons (.bin .sub (.var 1) (.int 1)) (.cons (.bin .sub (.int 0) (.var 1)) (.cons (.cmp .eq (.var 1) (.int 1)) (.cons .non (.cons (.blt .str (.cons (.var 1) .nil)) (.cons (.tup (.cons (.var 1) .nil)) (.cons (.int 99) (.cons (.int 100) .nil)))))))))) .nil)))) .nil) .nil) (.cons (.ret (.call (Str.ofString "_law_of") (.cons (.var 0) (.cons (.lst (.cons (.int 0) (.cons (.int 1) (.cons (.int 2) (.cons (.str (Str.ofString "a")) (.cons (.str (Str.ofString "b")) (.cons (.str (Str.ofString "c")) (.cons (.str (Str.ofString "")) (.cons .non (.cons (.tup .nil) (.cons (.lst .nil) (.cons (.int 0) (.cons .dic .nil))))))))))))) .nil)))) .nil)))
def f__law_bent : Fd := ⟨(Str.ofString "_law_bent"), [(Str.ofString "pot"), (Str.ofString "value")], [(Str.ofString "pot"), (Str.ofString "value"), (Str.ofString "way"), (Str.ofString "at")], defArgs (top 31), defBody (top 31), defScope (top 31), o__law_bent⟩
-- _law_all_words: 0=many 1=rows 2=lap 3=longer 4=word 5=row 6=at
def o__law_all_words : Ss := (.cons (.asg (.name 1) (.lst (.cons (.tup (.cons (.tup .nil) (.cons (.rng true (.cons (.var 0) .nil)) .nil))) .nil))) (.cons (.for_ (.name 2) (.rng (.cons (.bin .fdiv (.bin .mul (.var 0) (.bin .sub (.var 0) (.int 1))) (.int 2)) .nil)) (.cons (.asg (.name 3) (.lst .nil)) (.cons (.for_ (.tup (.cons (.name 4) (.cons (.name 5) .nil))) (.of (.var 1)) (.cons (.for_ (.name 6) (.rng (.cons (.bin .sub (.var 0) (.int 1)) .nil)) (.cons (.ife (.cmp .lt (.idx (.var 5) (.var 6)) (.idx (.var 5) (.bin .add (.var 6) (.int 1)))) (.cons (.ex (.mth .append (.var 3) (.cons (.tup (.cons (.bin .add (.var 4) (.tup (.cons (.var 6) .nil))) (.cons (.bin .add (.bin .add (.slc (.var 5) .no (.yes (.var 6))) (.tup (.cons (.idx (.var 5) (.bin .add (.var 6) (.int 1))) (.cons (.idx (.var 5) (.var 6)) .nil)))) (.slc (.var 5) (.yes (.bin .add (.var 6) (.int 2))) .no)) .nil))) .nil))) .nil) .nil) .nil)) .nil)) (.cons (.asg (.name 1) (.var 3)) .nil)))) (.cons (.ret (.blt .sorted (.cons (.lc (.var 4) (.tup (.cons (.name 4) (.cons (.name 5) .nil))) (.of (.var 1)) .nil [4, 5]) .nil))) .nil)))
def f__law_all_words : Fd := ⟨(Str.ofString "_law_all_words"), [(Str.ofString "many")], [(Str.ofString "many"), (Str.ofString "rows"), (Str.ofString "lap"), (Str.ofString "longer"), (Str.ofString "word"), (Str.ofString "row"), (Str.ofString "at")], defArgs (top 32), defBody (top 32), defScope (top 32), o__law_all_words⟩
-- _law_product: 0=many 1=number 2=over 3=under 4=lap
def o__law_product : Ss := (.cons (.asg (.tup (.cons (.name 2) (.cons (.name 3) .nil))) (.tup (.cons (.int 1) (.cons (.int 1) .nil)))) (.cons (.for_ (.name 1) (.rng (.cons (.int 1) (.cons (.bin .add (.bin .fdiv (.bin .mul (.var 0) (.bin .sub (.var 0) (.int 1))) (.int 2)) (.int 1)) .nil))) (.cons (.asg (.name 2) (.bin .mul (.var 2) (.var 1))) .nil)) (.cons (.for_ (.name 1) (.rng (.cons (.int 1) (.cons (.var 0) .nil))) (.cons (.for_ (.name 4) (.rng (.cons (.bin .sub (.var 0) (.var 1)) .nil)) (.cons (.asg (.name 3) (.bin .mul (.var 3) (.bin .sub (.bin .mul (.int 2) (.var 1)) (.int 1)))) .nil)) .nil)) (.cons (.ret (.bin .fdiv (.var 2) (.var 3))) .nil))))
def f__law_product : Fd := ⟨(Str.ofString "_law_product"), [(Str.ofString "many")], [(Str.ofString "many"), (Str.ofString "number"), (Str.ofString "over"), (Str.ofString "under"), (Str.ofString "lap")], defArgs (top 33), defBody (top 33), defScope (top 33), o__law_product⟩
-- _law_are_all_right: 0=pot 1=many 2=told
def o__law_are_all_right : Ss := (.cons (.asg (.name 1) (.bin .add (.int 1) (.call (Str.ofString "_law_take") (.cons (.var 0) (.cons (.int 5) .nil))))) (.cons (.asg (.name 2) (.callk (Str.ofString "words") [] (.cons (.var 1) .nil))) (.cons (.ret (.and (.cmp .eq (.blt .repr (.cons (.var 2) .nil)) (.blt .repr (.cons (.blt .tuple (.cons (.call (Str.ofString "_law_all_words") (.cons (.var 1) .nil)) .nil)) .nil))) (.cmp .eq (.blt .len (.cons (.var 2) .nil)) (.call (Str.ofString "_law_product") (.cons (.var 1) .nil))))) .nil)))
def f__law_are_all_right : Fd := ⟨(Str.ofString "_law_are_all_right"), [(Str.ofString "pot")], [(Str.ofString "pot"), (Str.ofString "many"), (Str.ofString "told")], defArgs (top 34), defBody (top 34), defScope (top 34), o__law_are_all_right⟩
-- _law_right: 0=pot 1=many 2=word 3=told 4=values 5=lap 6=value 7=kept 8=at 9=to 10=there
def o__law_right : Ss := (.cons (.asg (.name 1) (.bin .add (.int 1) (.call (Str.ofString "_law_take") (.cons (.var 0) (.cons (.int 9) .nil))))) (.cons (.asg (.name 2) (.call (Str.ofString "_law_word") (.cons (.var 0) (.cons (.var 1) .nil)))) (.cons (.ife (.cmp .ne (.blt .repr (.cons (.callk (Str.ofString "drawn") [] (.cons (.var 1) (.cons (.var 2) .nil))) .nil)) (.blt .repr (.cons (.blt .tuple (.cons (.call (Str.ofString "_law_rows") (.cons (.var 1) (.cons (.var 2) .nil))) .nil)) .nil))) (.cons (.ret (.bl false)) .nil) .nil) (.cons (.asg (.name 3) (.callk (Str.ofString "next_words") [] (.cons (.var 1) (.cons (.var 2) .nil)))) (.cons (.ife (.or (.cmp .ne (.blt .repr (.cons (.var 3) .nil)) (.blt .repr (.cons (.call (Str.ofString "_law_steps") (.cons (.var 2) (.cons (.bl false) .nil))) .nil))) (.not (.blt .all (.cons (.lc (.cmp .inn (.var 2) (.call (Str.ofString "next_words") (.cons (.var 1) (.cons (.var 10) .nil)))) (.name 10) (.of (.slc (.var 3) .no (.yes (.int 4)))) .nil [10]) .nil)))) (.cons (.ret (.bl false)) .nil) .nil) (.cons (.asg (.name 4) (.lst (.cons (.var 2) (.cons (.rev (.var 2)) (.cons (.blt .list (.cons (.var 2) .nil)) (.cons (.slc (.var 2) (.yes (.int 1)) .no) (.cons (.bin .add (.var 2) (.slc (.var 2) .no (.yes (.int 1)))) (.cons (.blt .tuple (.cons (.lc (.bin .sub (.bin .sub (.var 1) (.int 2)) (.var 8)) (.name 8) (.of (.var 2)) .nil [8]) .nil)) (.cons .non (.cons (.tup .nil) .nil)))))))))) (.cons (.for_ (.name 5) (.rng (.cons (.int 10) .nil)) (.cons (.asg (.tup (.cons (.name 8) (.cons (.name 9) .nil))) (.ife (.cmp .ne (.var 2) (.tup .nil)) (.tup (.cons (.call (Str.ofString "_law_take") (.cons (.var 0) (.cons (.blt .len (.cons (.var 2) .nil)) .nil))) (.cons (.call (Str.ofString "_law_take") (.cons (.var 0) (.cons (.bin .sub (.var 1) (.int 1)) .nil))) .nil))) (.tup (.cons (.int 0) (.cons (.int 0) .nil))))) (.cons (.ex (.mth .extend (.var 4) (.cons (.lst (.cons (.bin .add (.bin .add (.slc (.var 2) .no (.yes (.var 8))) (.tup (.cons (.var 9) .nil))) (.slc (.var 2) (.yes (.bin .add (.var 8) (.int 1))) .no)) (.cons (.call (Str.ofString "_law_bent") (.cons (.var 0) (.cons (.var 2) .nil))) .nil))) .nil))) .nil))) (.cons (.for_ (.name 6) (.of (.var 4)) (.cons (.asg (.name 7) (.blt .repr (.cons (.var 6) .nil))) (.cons (.ife (.or (.cmp .ne (.blt .repr (.cons (.callk (Str.ofString "is_word") [] (.cons (.var 1) (.cons (.var 6) .nil))) .nil)) (.blt .repr (.cons (.call (Str.ofString "_law_is_word") (.cons (.var 1) (.cons (.var 6) .nil))) .nil))) (.cmp .ne (.blt .repr (.cons (.var 6) .nil)) (.var 7))) (.cons (.ret (.bl false)) .nil) .nil) .nil))) (.cons (.ret (.bl true)) .nil)))))))))
def f__law_right : Fd := ⟨(Str.ofString "_law_right"), [(Str.ofString "pot")], [(Str.ofString "pot"), (Str.ofString "many"), (Str.ofString "word"), (Str.ofString "told"), (Str.ofString "values"), (Str.ofString "lap"), (Str.ofString "value"), (Str.ofString "kept"), (Str.ofString "at"), (Str.ofString "to"), (Str.ofString "there")], defArgs (top 35), defBody (top 35), defScope (top 35), o__law_right⟩
-- law: 0=script 1=place 2=pot 3=lap
def o_law : Ss := (.cons (.for_ (.name 1) (.of (.call (Str.ofString "_law_cells") (.cons (.var 0) (.cons (.int 2) .nil)))) (.cons (.asg (.name 2) (.call (Str.ofString "_law_pot") (.cons (.var 0) (.cons (.var 1) .nil)))) (.cons (.ife (.or (.not (.call (Str.ofString "_law_are_all_right") (.cons (.var 2) .nil))) (.not (.blt .all (.cons (.lc (.call (Str.ofString "_law_right") (.cons (.var 2) .nil)) (.name 3) (.rng (.cons (.int 4) .nil)) .nil [3]) .nil)))) (.cons (.ret (.bl false)) .nil) .nil) .nil))) (.cons (.ret (.bl true)) .nil))
def f_law : Fd := ⟨(Str.ofString "law"), [(Str.ofString "script")], [(Str.ofString "script"), (Str.ofString "place"), (Str.ofString "pot"), (Str.ofString "lap")], defArgs (top 36), defBody (top 36), defScope (top 36), o_law⟩
def fds : List Fd := [f_is_integer, f_is_between, f_check_many, f_exchanged, f_rows_by, f_is_word_of, f_is_word, f_check_word, f_words_of, f_words, f_drawn, f_steps_apart, f_steps_of, f_next_words, f__law_pot, f__law_take, f__law_of, f__law_cells, f__law_rows, f__law_is_word, f__law_word, f__law_steps, f__law_bent, f__law_all_words, f__law_product, f__law_are_all_right, f__law_right, f_law]
def fre : List Str := [(Str.ofString "abs"), (Str.ofString "all"), (Str.ofString "bool"), (Str.ofString "enumerate"), (Str.ofString "int"), (Str.ofString "isinstance"), (Str.ofString "len"), (Str.ofString "list"), (Str.ofString "max"), (Str.ofString "min"), (Str.ofString "range"), (Str.ofString "repr"), (Str.ofString "sorted"), (Str.ofString "str"), (Str.ofString "sum"), (Str.ofString "tuple"), (Str.ofString "zip")]
def con : List (Str × D) := [((Str.ofString "MOST_MANY"), .int 9), ((Str.ofString "MOST_TOLD"), .int 5)]
def tab : Tab := tabOf fds fre con
theorem c_is_integer : mSs ⟨tab, f_is_integer.N, f_is_integer.sc, true⟩ f_is_integer.own f_is_integer.body = true := by decide +kernel
theorem s_is_integer : FnScope f_is_integer.N f_is_integer.ps f_is_integer.sc := ⟨rfl, rfl, rfl, by decide +kernel, rfl, by decide +kernel, by decide +kernel⟩
theorem c_is_between : mSs ⟨tab, f_is_between.N, f_is_between.sc, true⟩ f_is_between.own f_is_between.body = true := by decide +kernel
theorem s_is_between : FnScope f_is_between.N f_is_between.ps f_is_between.sc := ⟨rfl, rfl, rfl, by decide +kernel, rfl, by decide +kernel, by decide +kernel⟩
theorem c_check_many : mSs ⟨tab, f_check_many.N, f_check_many.sc, true⟩ f_check_many.own f_check_many.body = true := by decide +kernel
theorem s_check_many : FnScope f_check_many.N f_check_many.ps f_check_many.sc := ⟨rfl, rfl, rfl, by decide +kernel, rfl, by decide +kernel, by decide +kernel⟩
theorem c_exchanged : mSs ⟨tab, f_exchanged.N, f_exchanged.sc, true⟩ f_exchanged.own f_exchanged.body = true := by decide +kernel
theorem s_exchanged : FnScope f_exchanged.N f_exchanged.ps f_exchanged.sc := ⟨rfl, rfl, rfl, by decide +kernel, rfl, by decide +kernel, by decide +kernel⟩
theorem c_rows_by : mSs ⟨tab, f_rows_by.N, f_rows_by.sc, true⟩ f_rows_by.own f_rows_by.body = true := by decide +kernel
theorem s_rows_by : FnScope f_rows_by.N f_rows_by.ps f_rows_by.sc := ⟨rfl, rfl, rfl, by decide +kernel, rfl, by decide +kernel, by decide +kernel⟩
theorem c_is_word_of : mSs ⟨tab, f_is_word_of.N, f_is_word_of.sc, true⟩ f_is_word_of.own f_is_word_of.body = true := by decide +kernel
theorem s_is_word_of : FnScope f_is_word_of.N f_is_word_of.ps f_is_word_of.sc := ⟨rfl, rfl, rfl, by decide +kernel, rfl, by decide +kernel, by decide +kernel⟩
theorem c_is_word : mSs ⟨tab, f_is_word.N, f_is_word.sc, true⟩ f_is_word.own f_is_word.body = true := by decide +kernel
theorem s_is_word : FnScope f_is_word.N f_is_word.ps f_is_word.sc := ⟨rfl, rfl, rfl, by decide +kernel, rfl, by decide +kernel, by decide +kernel⟩
theorem c_check_word : mSs ⟨tab, f_check_word.N, f_check_word.sc, true⟩ f_check_word.own f_check_word.body = true := by decide +kernel
theorem s_check_word : FnScope f_check_word.N f_check_word.ps f_check_word.sc := ⟨rfl, rfl, rfl, by decide +kernel, rfl, by decide +kernel, by decide +kernel⟩
theorem c_words_of : mSs ⟨tab, f_words_of.N, f_words_of.sc, true⟩ f_words_of.own f_words_of.body = true := by decide +kernel
theorem s_words_of : FnScope f_words_of.N f_words_of.ps f_words_of.sc := ⟨rfl, rfl, rfl, by decide +kernel, rfl, by decide +kernel, by decide +kernel⟩
theorem c_words : mSs ⟨tab, f_words.N, f_words.sc, true⟩ f_words.own f_words.body = true := by decide +kernel
theorem s_words : FnScope f_words.N f_words.ps f_words.sc := ⟨rfl, rfl, rfl, by decide +kernel, rfl, by decide +kernel, by decide +kernel⟩
theorem c_drawn : mSs ⟨tab, f_drawn.N, f_drawn.sc, true⟩ f_drawn.own f_drawn.body = true := by decide +kernel
theorem s_drawn : FnScope f_drawn.N f_drawn.ps f_drawn.sc := ⟨rfl, rfl, rfl, by decide +kernel, rfl, by decide +kernel, by decide +kernel⟩
theorem c_steps_apart : mSs ⟨tab, f_steps_apart.N, f_steps_apart.sc, true⟩ f_steps_apart.own f_steps_apart.body = true := by decide +kernel
theorem s_steps_apart : FnScope f_steps_apart.N f_steps_apart.ps f_steps_apart.sc := ⟨rfl, rfl, rfl, by decide +kernel, rfl, by decide +kernel, by decide +kernel⟩
theorem c_steps_of : mSs ⟨tab, f_steps_of.N, f_steps_of.sc, true⟩ f_steps_of.own f_steps_of.body = true := by decide +kernel
theorem s_steps_of : FnScope f_steps_of.N f_steps_of.ps f_steps_of.sc := ⟨rfl, rfl, rfl, by decide +kernel, rfl, by decide +kernel, by decide +kernel⟩
theorem c_next_words : mSs ⟨tab, f_next_words.N, f_next_words.sc, true⟩ f_next_words.own f_next_words.body = true := by decide +kernel
theorem s_next_words : FnScope f_next_words.N f_next_words.ps f_next_words.sc := ⟨rfl, rfl, rfl, by decide +kernel, rfl, by decide +kernel, by decide +kernel⟩
theorem c__law_pot : mSs ⟨tab, f__law_pot.N, f__law_pot.sc, true⟩ f__law_pot.own f__law_pot.body = true := by decide +kernel
theorem s__law_pot : FnScope f__law_pot.N f__law_pot.ps f__law_pot.sc := ⟨rfl, rfl, rfl, by decide +kernel, rfl, by decide +kernel, by decide +kernel⟩
theorem c__law_take : mSs ⟨tab, f__law_take.N, f__law_take.sc, true⟩ f__law_take.own f__law_take.body = true := by decide +kernel
theorem s__law_take : FnScope f__law_take.N f__law_take.ps f__law_take.sc := ⟨rfl, rfl, rfl, by decide +kernel, rfl, by decide +kernel, by decide +kernel⟩
theorem c__law_of : mSs ⟨tab, f__law_of.N, f__law_of.sc, true⟩ f__law_of.own f__law_of.body = true := by decide +kernel
theorem s__law_of : FnScope f__law_of.N f__law_of.ps f__law_of.sc := ⟨rfl, rfl, rfl, by decide +kernel, rfl, by decide +kernel, by decide +kernel⟩
theorem c__law_cells : mSs ⟨tab, f__law_cells.N, f__law_cells.sc, true⟩ f__law_cells.own f__law_cells.body = true := by decide +kernel
theorem s__law_cells : FnScope f__law_cells.N f__law_cells.ps f__law_cells.sc := ⟨rfl, rfl, rfl, by decide +kernel, rfl, by decide +kernel, by decide +kernel⟩
theorem c__law_rows : mSs ⟨tab, f__law_rows.N, f__law_rows.sc, true⟩ f__law_rows.own f__law_rows.body = true := by decide +kernel
theorem s__law_rows : FnScope f__law_rows.N f__law_rows.ps f__law_rows.sc := ⟨rfl, rfl, rfl, by decide +kernel, rfl, by decide +kernel, by decide +kernel⟩
theorem c__law_is_word : mSs ⟨tab, f__law_is_word.N, f__law_is_word.sc, true⟩ f__law_is_word.own f__law_is_word.body = true := by decide +kernel
theorem s__law_is_word : FnScope f__law_is_word.N f__law_is_word.ps f__law_is_word.sc := ⟨rfl, rfl, rfl, by decide +kernel, rfl, by decide +kernel, by decide +kernel⟩
theorem c__law_word : mSs ⟨tab, f__law_word.N, f__law_word.sc, true⟩ f__law_word.own f__law_word.body = true := by decide +kernel
theorem s__law_word : FnScope f__law_word.N f__law_word.ps f__law_word.sc := ⟨rfl, rfl, rfl, by decide +kernel, rfl, by decide +kernel, by decide +kernel⟩
theorem c__law_steps : mSs ⟨tab, f__law_steps.N, f__law_steps.sc, true⟩ f__law_steps.own f__law_steps.body = true := by decide +kernel
theorem s__law_steps : FnScope f__law_steps.N f__law_steps.ps f__law_steps.sc := ⟨rfl, rfl, rfl, by decide +kernel, rfl, by decide +kernel, by decide +kernel⟩
theorem c__law_bent : mSs ⟨tab, f__law_bent.N, f__law_bent.sc, true⟩ f__law_bent.own f__law_bent.body = true := by decide +kernel
theorem s__law_bent : FnScope f__law_bent.N f__law_bent.ps f__law_bent.sc := ⟨rfl, rfl, rfl, by decide +kernel, rfl, by decide +kernel, by decide +kernel⟩
theorem c__law_all_words : mSs ⟨tab, f__law_all_words.N, f__law_all_words.sc, true⟩ f__law_all_words.own f__law_all_words.body = true := by decide +kernel
theorem s__law_all_words : FnScope f__law_all_words.N f__law_all_words.ps f__law_all_words.sc := ⟨rfl, rfl, rfl, by decide +kernel, rfl, by decide +kernel, by decide +kernel⟩
theorem c__law_product : mSs ⟨tab, f__law_product.N, f__law_product.sc, true⟩ f__law_product.own f__law_product.body = true := by decide +kernel
theorem s__law_product : FnScope f__law_product.N f__law_product.ps f__law_product.sc := ⟨rfl, rfl, rfl, by decide +kernel, rfl, by decide +kernel, by decide +kernel⟩
theorem c__law_are_all_right : mSs ⟨tab, f__law_are_all_right.N, f__law_are_all_right.sc, true⟩ f__law_are_all_right.own f__law_are_all_right.body = true := by decide +kernel
theorem s__law_are_all_right : FnScope f__law_are_all_right.N f__law_are_all_right.ps f__law_are_all_right.sc := ⟨rfl, rfl, rfl, by decide +kernel, rfl, by decide +kernel, by decide +kernel⟩
theorem c__law_right : mSs ⟨tab, f__law_right.N, f__law_right.sc, true⟩ f__law_right.own f__law_right.body = true := by decide +kernel
theorem s__law_right : FnScope f__law_right.N f__law_right.ps f__law_right.sc := ⟨rfl, rfl, rfl, by decide +kernel, rfl, by decide +kernel, by decide +kernel⟩
theorem c_law : mSs ⟨tab, f_law.N, f_law.sc, true⟩ f_law.own f_law.body = true := by decide +kernel
theorem s_law : FnScope f_law.N f_law.ps f_law.sc := ⟨rfl, rfl, rfl, by decide +kernel, rfl, by decide +kernel, by decide +kernel⟩
theorem b_is_integer (kV doc pm : Value) (an : Option Addr) (cdv ct : Value) (us : List Value) (hl : us.length = f_is_integer.ps.length) : bindArgs (PySem.W.fnOf f_is_integer.name f_is_integer.name f_is_integer.args f_is_integer.body f_is_integer.sc .none kV doc pm an cdv ct) ⟨us, []⟩ = pure (f_is_integer.ps.zip us) ∧ bindArgs (PySem.W.fnOf f_is_integer.name f_is_integer.name f_is_integer.args f_is_integer.body f_is_integer.sc .none kV doc pm an cdv ct) ⟨[], f_is_integer.ps.zip us⟩ = pure (f_is_integer.ps.zip us) :=
  match us, hl with | [_], _ => ⟨rfl, rfl⟩
theorem b_is_between (kV doc pm : Value) (an : Option Addr) (cdv ct : Value) (us : List Value) (hl : us.length = f_is_between.ps.length) : bindArgs (PySem.W.fnOf f_is_between.name f_is_between.name f_is_between.args f_is_between.body f_is_between.sc .none kV doc pm an cdv ct) ⟨us, []⟩ = pure (f_is_between.ps.zip us) ∧ bindArgs (PySem.W.fnOf f_is_between.name f_is_between.name f_is_between.args f_is_between.body f_is_between.sc .none kV doc pm an cdv ct) ⟨[], f_is_between.ps.zip us⟩ = pure (f_is_between.ps.zip us) :=
  match us, hl with | [_, _, _], _ => ⟨rfl, rfl⟩
theorem b_check_many (kV doc pm : Value) (an : Option Addr) (cdv ct : Value) (us : List Value) (hl : us.length = f_check_many.ps.length) : bindArgs (PySem.W.fnOf f_check_many.name f_check_many.name f_check_many.args f_check_many.body f_check_many.sc .none kV doc pm an cdv ct) ⟨us, []⟩ = pure (f_check_many.ps.zip us) ∧ bindArgs (PySem.W.fnOf f_check_many.name f_check_many.name f_check_many.args f_check_many.body f_check_many.sc .none kV doc pm an cdv ct) ⟨[], f_check_many.ps.zip us⟩ = pure (f_check_many.ps.zip us) :=
  match us, hl with | [_, _], _ => ⟨rfl, rfl⟩
theorem b_exchanged (kV doc pm : Value) (an : Option Addr) (cdv ct : Value) (us : List Value) (hl : us.length = f_exchanged.ps.length) : bindArgs (PySem.W.fnOf f_exchanged.name f_exchanged.name f_exchanged.args f_exchanged.body f_exchanged.sc .none kV doc pm an cdv ct) ⟨us, []⟩ = pure (f_exchanged.ps.zip us) ∧ bindArgs (PySem.W.fnOf f_exchanged.name f_exchanged.name f_exchanged.args f_exchanged.body f_exchanged.sc .none kV doc pm an cdv ct) ⟨[], f_exchanged.ps.zip us⟩ = pure (f_exchanged.ps.zip us) :=
  match us, hl with | [_, _], _ => ⟨rfl, rfl⟩
theorem b_rows_by (kV doc pm : Value) (an : Option Addr) (cdv ct : Value) (us : List Value) (hl : us.length = f_rows_by.ps.length) : bindArgs (PySem.W.fnOf f_rows_by.name f_rows_by.name f_rows_by.args f_rows_by.body f_rows_by.sc .none kV doc pm an cdv ct) ⟨us, []⟩ = pure (f_rows_by.ps.zip us) ∧ bindArgs (PySem.W.fnOf f_rows_by.name f_rows_by.name f_rows_by.args f_rows_by.body f_rows_by.sc .none kV doc pm an cdv ct) ⟨[], f_rows_by.ps.zip us⟩ = pure (f_rows_by.ps.zip us) :=
  match us, hl with | [_, _], _ => ⟨rfl, rfl⟩
theorem b_is_word_of (kV doc pm : Value) (an : Option Addr) (cdv ct : Value) (us : List Value) (hl : us.length = f_is_word_of.ps.length) : bindArgs (PySem.W.fnOf f_is_word_of.name f_is_word_of.name f_is_word_of.args f_is_word_of.body f_is_word_of.sc .none kV doc pm an cdv ct) ⟨us, []⟩ = pure (f_is_word_of.ps.zip us) ∧ bindArgs (PySem.W.fnOf f_is_word_of.name f_is_word_of.name f_is_word_of.args f_is_word_of.body f_is_word_of.sc .none kV doc pm an cdv ct) ⟨[], f_is_word_of.ps.zip us⟩ = pure (f_is_word_of.ps.zip us) :=
  match us, hl with | [_, _], _ => ⟨rfl, rfl⟩
theorem b_is_word (kV doc pm : Value) (an : Option Addr) (cdv ct : Value) (us : List Value) (hl : us.length = f_is_word.ps.length) : bindArgs (PySem.W.fnOf f_is_word.name f_is_word.name f_is_word.args f_is_word.body f_is_word.sc .none kV doc pm an cdv ct) ⟨us, []⟩ = pure (f_is_word.ps.zip us) ∧ bindArgs (PySem.W.fnOf f_is_word.name f_is_word.name f_is_word.args f_is_word.body f_is_word.sc .none kV doc pm an cdv ct) ⟨[], f_is_word.ps.zip us⟩ = pure (f_is_word.ps.zip us) :=
  match us, hl with | [_, _], _ => ⟨rfl, rfl⟩
theorem b_check_word (kV doc pm : Value) (an : Option Addr) (cdv ct : Value) (us : List Value) (hl : us.length = f_check_word.ps.length) : bindArgs (PySem.W.fnOf f_check_word.name f_check_word.name f_check_word.args f_check_word.body f_check_word.sc .none kV doc pm an cdv ct) ⟨us, []⟩ = pure (f_check_word.ps.zip us) ∧ bindArgs (PySem.W.fnOf f_check_word.name f_check_word.name f_check_word.args f_check_word.body f_check_word.sc .none kV doc pm an cdv ct) ⟨[], f_check_word.ps.zip us⟩ = pure (f_check_word.ps.zip us) :=
  match us, hl with | [_, _], _ => ⟨rfl, rfl⟩
theorem b_words_of (kV doc pm : Value) (an : Option Addr) (cdv ct : Value) (us : List Value) (hl : us.length = f_words_of.ps.length) : bindArgs (PySem.W.fnOf f_words_of.name f_words_of.name f_words_of.args f_words_of.body f_words_of.sc .none kV doc pm an cdv ct) ⟨us, []⟩ = pure (f_words_of.ps.zip us) ∧ bindArgs (PySem.W.fnOf f_words_of.name f_words_of.name f_words_of.args f_words_of.body f_words_of.sc .none kV doc pm an cdv ct) ⟨[], f_words_of.ps.zip us⟩ = pure (f_words_of.ps.zip us) :=
  match us, hl with | [_], _ => ⟨rfl, rfl⟩
theorem b_words (kV doc pm : Value) (an : Option Addr) (cdv ct : Value) (us : List Value) (hl : us.length = f_words.ps.length) : bindArgs (PySem.W.fnOf f_words.name f_words.name f_words.args f_words.body f_words.sc .none kV doc pm an cdv ct) ⟨us, []⟩ = pure (f_words.ps.zip us) ∧ bindArgs (PySem.W.fnOf f_words.name f_words.name f_words.args f_words.body f_words.sc .none kV doc pm an cdv ct) ⟨[], f_words.ps.zip us⟩ = pure (f_words.ps.zip us) :=
  match us, hl with | [_], _ => ⟨rfl, rfl⟩
theorem b_drawn (kV doc pm : Value) (an : Option Addr) (cdv ct : Value) (us : List Value) (hl : us.length = f_drawn.ps.length) : bindArgs (PySem.W.fnOf f_drawn.name f_drawn.name f_drawn.args f_drawn.body f_drawn.sc .none kV doc pm an cdv ct) ⟨us, []⟩ = pure (f_drawn.ps.zip us) ∧ bindArgs (PySem.W.fnOf f_drawn.name f_drawn.name f_drawn.args f_drawn.body f_drawn.sc .none kV doc pm an cdv ct) ⟨[], f_drawn.ps.zip us⟩ = pure (f_drawn.ps.zip us) :=
  match us, hl with | [_, _], _ => ⟨rfl, rfl⟩
theorem b_steps_apart (kV doc pm : Value) (an : Option Addr) (cdv ct : Value) (us : List Value) (hl : us.length = f_steps_apart.ps.length) : bindArgs (PySem.W.fnOf f_steps_apart.name f_steps_apart.name f_steps_apart.args f_steps_apart.body f_steps_apart.sc .none kV doc pm an cdv ct) ⟨us, []⟩ = pure (f_steps_apart.ps.zip us) ∧ bindArgs (PySem.W.fnOf f_steps_apart.name f_steps_apart.name f_steps_apart.args f_steps_apart.body f_steps_apart.sc .none kV doc pm an cdv ct) ⟨[], f_steps_apart.ps.zip us⟩ = pure (f_steps_apart.ps.zip us) :=
  match us, hl with | [_], _ => ⟨rfl, rfl⟩
theorem b_steps_of (kV doc pm : Value) (an : Option Addr) (cdv ct : Value) (us : List Value) (hl : us.length = f_steps_of.ps.length) : bindArgs (PySem.W.fnOf f_steps_of.name f_steps_of.name f_steps_of.args f_steps_of.body f_steps_of.sc .none kV doc pm an cdv ct) ⟨us, []⟩ = pure (f_steps_of.ps.zip us) ∧ bindArgs (PySem.W.fnOf f_steps_of.name f_steps_of.name f_steps_of.args f_steps_of.body f_steps_of.sc .none kV doc pm an cdv ct) ⟨[], f_steps_of.ps.zip us⟩ = pure (f_steps_of.ps.zip us) :=
  match us, hl with | [_], _ => ⟨rfl, rfl⟩
theorem b_next_words (kV doc pm : Value) (an : Option Addr) (cdv ct : Value) (us : List Value) (hl : us.length = f_next_words.ps.length) : bindArgs (PySem.W.fnOf f_next_words.name f_next_words.name f_next_words.args f_next_words.body f_next_words.sc .none kV doc pm an cdv ct) ⟨us, []⟩ = pure (f_next_words.ps.zip us) ∧ bindArgs (PySem.W.fnOf f_next_words.name f_next_words.name f_next_words.args f_next_words.body f_next_words.sc .none kV doc pm an cdv ct) ⟨[], f_next_words.ps.zip us⟩ = pure (f_next_words.ps.zip us) :=
  match us, hl with | [_, _], _ => ⟨rfl, rfl⟩
theorem b__law_pot (kV doc pm : Value) (an : Option Addr) (cdv ct : Value) (us : List Value) (hl : us.length = f__law_pot.ps.length) : bindArgs (PySem.W.fnOf f__law_pot.name f__law_pot.name f__law_pot.args f__law_pot.body f__law_pot.sc .none kV doc pm an cdv ct) ⟨us, []⟩ = pure (f__law_pot.ps.zip us) ∧ bindArgs (PySem.W.fnOf f__law_pot.name f__law_pot.name f__law_pot.args f__law_pot.body f__law_pot.sc .none kV doc pm an cdv ct) ⟨[], f__law_pot.ps.zip us⟩ = pure (f__law_pot.ps.zip us) :=
  match us, hl with | [_, _], _ => ⟨rfl, rfl⟩
theorem b__law_take (kV doc pm : Value) (an : Option Addr) (cdv ct : Value) (us : List Value) (hl : us.length = f__law_take.ps.length) : bindArgs (PySem.W.fnOf f__law_take.name f__law_take.name f__law_take.args f__law_take.body f__law_take.sc .none kV doc pm an cdv ct) ⟨us, []⟩ = pure (f__law_take.ps.zip us) ∧ bindArgs (PySem.W.fnOf f__law_take.name f__law_take.name f__law_take.args f__law_take.body f__law_take.sc .none kV doc pm an cdv ct) ⟨[], f__law_take.ps.zip us⟩ = pure (f__law_take.ps.zip us) :=
  match us, hl with | [_, _], _ => ⟨rfl, rfl⟩
theorem b__law_of (kV doc pm : Value) (an : Option Addr) (cdv ct : Value) (us : List Value) (hl : us.length = f__law_of.ps.length) : bindArgs (PySem.W.fnOf f__law_of.name f__law_of.name f__law_of.args f__law_of.body f__law_of.sc .none kV doc pm an cdv ct) ⟨us, []⟩ = pure (f__law_of.ps.zip us) ∧ bindArgs (PySem.W.fnOf f__law_of.name f__law_of.name f__law_of.args f__law_of.body f__law_of.sc .none kV doc pm an cdv ct) ⟨[], f__law_of.ps.zip us⟩ = pure (f__law_of.ps.zip us) :=
  match us, hl with | [_, _], _ => ⟨rfl, rfl⟩
theorem b__law_cells (kV doc pm : Value) (an : Option Addr) (cdv ct : Value) (us : List Value) (hl : us.length = f__law_cells.ps.length) : bindArgs (PySem.W.fnOf f__law_cells.name f__law_cells.name f__law_cells.args f__law_cells.body f__law_cells.sc .none kV doc pm an cdv ct) ⟨us, []⟩ = pure (f__law_cells.ps.zip us) ∧ bindArgs (PySem.W.fnOf f__law_cells.name f__law_cells.name f__law_cells.args f__law_cells.body f__law_cells.sc .none kV doc pm an cdv ct) ⟨[], f__law_cells.ps.zip us⟩ = pure (f__law_cells.ps.zip us) :=
  match us, hl with | [_, _], _ => ⟨rfl, rfl⟩
theorem b__law_rows (kV doc pm : Value) (an : Option Addr) (cdv ct : Value) (us : List Value) (hl : us.length = f__law_rows.ps.length) : bindArgs (PySem.W.fnOf f__law_rows.name f__law_rows.name f__law_rows.args f__law_rows.body f__law_rows.sc .none kV doc pm an cdv ct) ⟨us, []⟩ = pure (f__law_rows.ps.zip us) ∧ bindArgs (PySem.W.fnOf f__law_rows.name f__law_rows.name f__law_rows.args f__law_rows.body f__law_rows.sc .none kV doc pm an cdv ct) ⟨[], f__law_rows.ps.zip us⟩ = pure (f__law_rows.ps.zip us) :=
  match us, hl with | [_, _], _ => ⟨rfl, rfl⟩
theorem b__law_is_word (kV doc pm : Value) (an : Option Addr) (cdv ct : Value) (us : List Value) (hl : us.length = f__law_is_word.ps.length) : bindArgs (PySem.W.fnOf f__law_is_word.name f__law_is_word.name f__law_is_word.args f__law_is_word.body f__law_is_word.sc .none kV doc pm an cdv ct) ⟨us, []⟩ = pure (f__law_is_word.ps.zip us) ∧ bindArgs (PySem.W.fnOf f__law_is_word.name f__law_is_word.name f__law_is_word.args f__law_is_word.body f__law_is_word.sc .none kV doc pm an cdv ct) ⟨[], f__law_is_word.ps.zip us⟩ = pure (f__law_is_word.ps.zip us) :=
  match us, hl with | [_, _], _ => ⟨rfl, rfl⟩
theorem b__law_word (kV doc pm : Value) (an : Option Addr) (cdv ct : Value) (us : List Value) (hl : us.length = f__law_word.ps.length) : bindArgs (PySem.W.fnOf f__law_word.name f__law_word.name f__law_word.args f__law_word.body f__law_word.sc .none kV doc pm an cdv ct) ⟨us, []⟩ = pure (f__law_word.ps.zip us) ∧ bindArgs (PySem.W.fnOf f__law_word.name f__law_word.name f__law_word.args f__law_word.body f__law_word.sc .none kV doc pm an cdv ct) ⟨[], f__law_word.ps.zip us⟩ = pure (f__law_word.ps.zip us) :=
  match us, hl with | [_, _], _ => ⟨rfl, rfl⟩
theorem b__law_steps (kV doc pm : Value) (an : Option Addr) (cdv ct : Value) (us : List Value) (hl : us.length = f__law_steps.ps.length) : bindArgs (PySem.W.fnOf f__law_steps.name f__law_steps.name f__law_steps.args f__law_steps.body f__law_steps.sc .none kV doc pm an cdv ct) ⟨us, []⟩ = pure (f__law_steps.ps.zip us) ∧ bindArgs (PySem.W.fnOf f__law_steps.name f__law_steps.name f__law_steps.args f__law_steps.body f__law_steps.sc .none kV doc pm an cdv ct) ⟨[], f__law_steps.ps.zip us⟩ = pure (f__law_steps.ps.zip us) :=
  match us, hl with | [_, _], _ => ⟨rfl, rfl⟩
theorem b__law_bent (kV doc pm : Value) (an : Option Addr) (cdv ct : Value) (us : List Value) (hl : us.length = f__law_bent.ps.length) : bindArgs (PySem.W.fnOf f__law_bent.name f__law_bent.name f__law_bent.args f__law_bent.body f__law_bent.sc .none kV doc pm an cdv ct) ⟨us, []⟩ = pure (f__law_bent.ps.zip us) ∧ bindArgs (PySem.W.fnOf f__law_bent.name f__law_bent.name f__law_bent.args f__law_bent.body f__law_bent.sc .none kV doc pm an cdv ct) ⟨[], f__law_bent.ps.zip us⟩ = pure (f__law_bent.ps.zip us) :=
  match us, hl with | [_, _], _ => ⟨rfl, rfl⟩
theorem b__law_all_words (kV doc pm : Value) (an : Option Addr) (cdv ct : Value) (us : List Value) (hl : us.length = f__law_all_words.ps.length) : bindArgs (PySem.W.fnOf f__law_all_words.name f__law_all_words.name f__law_all_words.args f__law_all_words.body f__law_all_words.sc .none kV doc pm an cdv ct) ⟨us, []⟩ = pure (f__law_all_words.ps.zip us) ∧ bindArgs (PySem.W.fnOf f__law_all_words.name f__law_all_words.name f__law_all_words.args f__law_all_words.body f__law_all_words.sc .none kV doc pm an cdv ct) ⟨[], f__law_all_words.ps.zip us⟩ = pure (f__law_all_words.ps.zip us) :=
  match us, hl with | [_], _ => ⟨rfl, rfl⟩
theorem b__law_product (kV doc pm : Value) (an : Option Addr) (cdv ct : Value) (us : List Value) (hl : us.length = f__law_product.ps.length) : bindArgs (PySem.W.fnOf f__law_product.name f__law_product.name f__law_product.args f__law_product.body f__law_product.sc .none kV doc pm an cdv ct) ⟨us, []⟩ = pure (f__law_product.ps.zip us) ∧ bindArgs (PySem.W.fnOf f__law_product.name f__law_product.name f__law_product.args f__law_product.body f__law_product.sc .none kV doc pm an cdv ct) ⟨[], f__law_product.ps.zip us⟩ = pure (f__law_product.ps.zip us) :=
  match us, hl with | [_], _ => ⟨rfl, rfl⟩
theorem b__law_are_all_right (kV doc pm : Value) (an : Option Addr) (cdv ct : Value) (us : List Value) (hl : us.length = f__law_are_all_right.ps.length) : bindArgs (PySem.W.fnOf f__law_are_all_right.name f__law_are_all_right.name f__law_are_all_right.args f__law_are_all_right.body f__law_are_all_right.sc .none kV doc pm an cdv ct) ⟨us, []⟩ = pure (f__law_are_all_right.ps.zip us) ∧ bindArgs (PySem.W.fnOf f__law_are_all_right.name f__law_are_all_right.name f__law_are_all_right.args f__law_are_all_right.body f__law_are_all_right.sc .none kV doc pm an cdv ct) ⟨[], f__law_are_all_right.ps.zip us⟩ = pure (f__law_are_all_right.ps.zip us) :=
  match us, hl with | [_], _ => ⟨rfl, rfl⟩
theorem b__law_right (kV doc pm : Value) (an : Option Addr) (cdv ct : Value) (us : List Value) (hl : us.length = f__law_right.ps.length) : bindArgs (PySem.W.fnOf f__law_right.name f__law_right.name f__law_right.args f__law_right.body f__law_right.sc .none kV doc pm an cdv ct) ⟨us, []⟩ = pure (f__law_right.ps.zip us) ∧ bindArgs (PySem.W.fnOf f__law_right.name f__law_right.name f__law_right.args f__law_right.body f__law_right.sc .none kV doc pm an cdv ct) ⟨[], f__law_right.ps.zip us⟩ = pure (f__law_right.ps.zip us) :=
  match us, hl with | [_], _ => ⟨rfl, rfl⟩
theorem b_law (kV doc pm : Value) (an : Option Addr) (cdv ct : Value) (us : List Value) (hl : us.length = f_law.ps.length) : bindArgs (PySem.W.fnOf f_law.name f_law.name f_law.args f_law.body f_law.sc .none kV doc pm an cdv ct) ⟨us, []⟩ = pure (f_law.ps.zip us) ∧ bindArgs (PySem.W.fnOf f_law.name f_law.name f_law.args f_law.body f_law.sc .none kV doc pm an cdv ct) ⟨[], f_law.ps.zip us⟩ = pure (f_law.ps.zip us) :=
  match us, hl with | [_], _ => ⟨rfl, rfl⟩
theorem told : ∀ d ∈ fds, Told tab d := List.forall_mem_cons.mpr ⟨⟨s_is_integer, c_is_integer, b_is_integer⟩, List.forall_mem_cons.mpr ⟨⟨s_is_between, c_is_between, b_is_between⟩, List.forall_mem_cons.mpr ⟨⟨s_check_many, c_check_many, b_check_many⟩, List.forall_mem_cons.mpr ⟨⟨s_exchanged, c_exchanged, b_exchanged⟩, List.forall_mem_cons.mpr ⟨⟨s_rows_by, c_rows_by, b_rows_by⟩, List.forall_mem_cons.mpr ⟨⟨s_is_word_of, c_is_word_of, b_is_word_of⟩, List.forall_mem_cons.mpr ⟨⟨s_is_word, c_is_word, b_is_word⟩, List.forall_mem_cons.mpr ⟨⟨s_check_word, c_check_word, b_check_word⟩, List.forall_mem_cons.mpr ⟨⟨s_words_of, c_words_of, b_words_of⟩, List.forall_mem_cons.mpr ⟨⟨s_words, c_words, b_words⟩, List.forall_mem_cons.mpr ⟨⟨s_drawn, c_drawn, b_drawn⟩, List.forall_mem_cons.mpr ⟨⟨s_steps_apart, c_steps_apart, b_steps_apart⟩, List.forall_mem_cons.mpr ⟨⟨s_steps_of, c_steps_of, b_steps_of⟩, List.forall_mem_cons.mpr ⟨⟨s_next_words, c_next_words, b_next_words⟩, List.forall_mem_cons.mpr ⟨⟨s__law_pot, c__law_pot, b__law_pot⟩, List.forall_mem_cons.mpr ⟨⟨s__law_take, c__law_take, b__law_take⟩, List.forall_mem_cons.mpr ⟨⟨s__law_of, c__law_of, b__law_of⟩, List.forall_mem_cons.mpr ⟨⟨s__law_cells, c__law_cells, b__law_cells⟩, List.forall_mem_cons.mpr ⟨⟨s__law_rows, c__law_rows, b__law_rows⟩, List.forall_mem_cons.mpr ⟨⟨s__law_is_word, c__law_is_word, b__law_is_word⟩, List.forall_mem_cons.mpr ⟨⟨s__law_word, c__law_word, b__law_word⟩, List.forall_mem_cons.mpr ⟨⟨s__law_steps, c__law_steps, b__law_steps⟩, List.forall_mem_cons.mpr ⟨⟨s__law_bent, c__law_bent, b__law_bent⟩, List.forall_mem_cons.mpr ⟨⟨s__law_all_words, c__law_all_words, b__law_all_words⟩, List.forall_mem_cons.mpr ⟨⟨s__law_product, c__law_product, b__law_product⟩, List.forall_mem_cons.mpr ⟨⟨s__law_are_all_right, c__law_are_all_right, b__law_are_all_right⟩, List.forall_mem_cons.mpr ⟨⟨s__law_right, c__law_right, b__law_right⟩, List.forall_mem_cons.mpr ⟨⟨s_law, c_law, b_law⟩, fun _ h => nomatch h⟩⟩⟩⟩⟩⟩⟩⟩⟩⟩⟩⟩⟩⟩⟩⟩⟩⟩⟩⟩⟩⟩⟩⟩⟩⟩⟩⟩
abbrev GG : Str → Option D := fun x => con.lookup x
abbrev CC (n : Nat) : Calls := rdC fds GG n
theorem enter {n : Nat} {η : Sto} {Q : DK} {f : Fd} {x : Str} {args : List D} {st : DSt} {own : Ss} (hf : fds.find? (fun d => d.name == x) = some f) (hl : args.length = f.ps.length) (hst : dStart f args = st) (ho : f.own = own) (h : rdSs (CC n) GG own (retE Q) st η) : CC (n + 1) x args η Q := ⟨f, hf, hl, by rw [hst, ho]; exact h⟩
theorem u_is_integer {n : Nat} {η : Sto} {Q : DK} {a0 : D} (h : rdSs (CC n) GG o_is_integer (retE Q) [some a0] η) : CC (n + 1) (Str.ofString "is_integer") [a0] η Q := enter (f := f_is_integer) (by kernel_rfl) rfl rfl rfl h
theorem u_is_between {n : Nat} {η : Sto} {Q : DK} {a0 a1 a2 : D} (h : rdSs (CC n) GG o_is_between (retE Q) [some a0, some a1, some a2] η) : CC (n + 1) (Str.ofString "is_between") [a0, a1, a2] η Q := enter (f := f_is_between) (by kernel_rfl) rfl rfl rfl h
theorem u_check_many {n : Nat} {η : Sto} {Q : DK} {a0 a1 : D} (h : rdSs (CC n) GG o_check_many (retE Q) [some a0, some a1] η) : CC (n + 1) (Str.ofString "check_many") [a0, a1] η Q := enter (f := f_check_many) (by kernel_rfl) rfl rfl rfl h
theorem u_exchanged {n : Nat} {η : Sto} {Q : DK} {a0 a1 : D} (h : rdSs (CC n) GG o_exchanged (retE Q) [some a0, some a1] η) : CC (n + 1) (Str.ofString "exchanged") [a0, a1] η Q := enter (f := f_exchanged) (by kernel_rfl) rfl rfl rfl h
theorem u_rows_by {n : Nat} {η : Sto} {Q : DK} {a0 a1 : D} (h : rdSs (CC n) GG o_rows_by (retE Q) [some a0, some a1, none, none] η) : CC (n + 1) (Str.ofString "rows_by") [a0, a1] η Q := enter (f := f_rows_by) (by kernel_rfl) rfl rfl rfl h
theorem u_is_word_of {n : Nat} {η : Sto} {Q : DK} {a0 a1 : D} (h : rdSs (CC n) GG o_is_word_of (retE Q) [some a0, some a1, none] η) : CC (n + 1) (Str.ofString "is_word_of") [a0, a1] η Q := enter (f := f_is_word_of) (by kernel_rfl) rfl rfl rfl h
theorem u_is_word {n : Nat} {η : Sto} {Q : DK} {a0 a1 : D} (h : rdSs (CC n) GG o_is_word (retE Q) [some a0, some a1] η) : CC (n + 1) (Str.ofString "is_word") [a0, a1] η Q := enter (f := f_is_word) (by kernel_rfl) rfl rfl rfl h
theorem u_check_word {n : Nat} {η : Sto} {Q : DK} {a0 a1 : D} (h : rdSs (CC n) GG o_check_word (retE Q) [some a0, some a1] η) : CC (n + 1) (Str.ofString "check_word") [a0, a1] η Q := enter (f := f_check_word) (by kernel_rfl) rfl rfl rfl h
theorem u_words_of {n : Nat} {η : Sto} {Q : DK} {a0 : D} (h : rdSs (CC n) GG o_words_of (retE Q) [some a0, none, none, none, none, none] η) : CC (n + 1) (Str.ofString "words_of") [a0] η Q := enter (f := f_words_of) (by kernel_rfl) rfl rfl rfl h
theorem u_words {n : Nat} {η : Sto} {Q : DK} {a0 : D} (h : rdSs (CC n) GG o_words (retE Q) [some a0] η) : CC (n + 1) (Str.ofString "words") [a0] η Q := enter (f := f_words) (by kernel_rfl) rfl rfl rfl h
theorem u_drawn {n : Nat} {η : Sto} {Q : DK} {a0 a1 : D} (h : rdSs (CC n) GG o_drawn (retE Q) [some a0, some a1] η) : CC (n + 1) (Str.ofString "drawn") [a0, a1] η Q := enter (f := f_drawn) (by kernel_rfl) rfl rfl rfl h
theorem u_steps_apart {n : Nat} {η : Sto} {Q : DK} {a0 : D} (h : rdSs (CC n) GG o_steps_apart (retE Q) [some a0, none, none, none, none] η) : CC (n + 1) (Str.ofString "steps_apart") [a0] η Q := enter (f := f_steps_apart) (by kernel_rfl) rfl rfl rfl h
theorem u_steps_of {n : Nat} {η : Sto} {Q : DK} {a0 : D} (h : rdSs (CC n) GG o_steps_of (retE Q) [some a0, none, none, none, none, none] η) : CC (n + 1) (Str.ofString "steps_of") [a0] η Q := enter (f := f_steps_of) (by kernel_rfl) rfl rfl rfl h
theorem u_next_words {n : Nat} {η : Sto} {Q : DK} {a0 a1 : D} (h : rdSs (CC n) GG o_next_words (retE Q) [some a0, some a1] η) : CC (n + 1) (Str.ofString "next_words") [a0, a1] η Q := enter (f := f_next_words) (by kernel_rfl) rfl rfl rfl h
theorem u__law_pot {n : Nat} {η : Sto} {Q : DK} {a0 a1 : D} (h : rdSs (CC n) GG o__law_pot (retE Q) [some a0, some a1, none, none, none] η) : CC (n + 1) (Str.ofString "_law_pot") [a0, a1] η Q := enter (f := f__law_pot) (by kernel_rfl) rfl rfl rfl h
theorem u__law_take {n : Nat} {η : Sto} {Q : DK} {a0 a1 : D} (h : rdSs (CC n) GG o__law_take (retE Q) [some a0, some a1, none, none, none] η) : CC (n + 1) (Str.ofString "_law_take") [a0, a1] η Q := enter (f := f__law_take) (by kernel_rfl) rfl rfl rfl h
theorem u__law_of {n : Nat} {η : Sto} {Q : DK} {a0 a1 : D} (h : rdSs (CC n) GG o__law_of (retE Q) [some a0, some a1] η) : CC (n + 1) (Str.ofString "_law_of") [a0, a1] η Q := enter (f := f__law_of) (by kernel_rfl) rfl rfl rfl h
theorem u__law_cells {n : Nat} {η : Sto} {Q : DK} {a0 a1 : D} (h : rdSs (CC n) GG o__law_cells (retE Q) [some a0, some a1] η) : CC (n + 1) (Str.ofString "_law_cells") [a0, a1] η Q := enter (f := f__law_cells) (by kernel_rfl) rfl rfl rfl h
theorem u__law_rows {n : Nat} {η : Sto} {Q : DK} {a0 a1 : D} (h : rdSs (CC n) GG o__law_rows (retE Q) [some a0, some a1, none, none, none] η) : CC (n + 1) (Str.ofString "_law_rows") [a0, a1] η Q := enter (f := f__law_rows) (by kernel_rfl) rfl rfl rfl h
theorem u__law_is_word {n : Nat} {η : Sto} {Q : DK} {a0 a1 : D} (h : rdSs (CC n) GG o__law_is_word (retE Q) [some a0, some a1, none] η) : CC (n + 1) (Str.ofString "_law_is_word") [a0, a1] η Q := enter (f := f__law_is_word) (by kernel_rfl) rfl rfl rfl h
theorem u__law_word {n : Nat} {η : Sto} {Q : DK} {a0 a1 : D} (h : rdSs (CC n) GG o__law_word (retE Q) [some a0, some a1, none, none, none, none] η) : CC (n + 1) (Str.ofString "_law_word") [a0, a1] η Q := enter (f := f__law_word) (by kernel_rfl) rfl rfl rfl h
theorem u__law_steps {n : Nat} {η : Sto} {Q : DK} {a0 a1 : D} (h : rdSs (CC n) GG o__law_steps (retE Q) [some a0, some a1, none, none] η) : CC (n + 1) (Str.ofString "_law_steps") [a0, a1] η Q := enter (f := f__law_steps) (by kernel_rfl) rfl rfl rfl h
theorem u__law_bent {n : Nat} {η : Sto} {Q : DK} {a0 a1 : D} (h : rdSs (CC n) GG o__law_bent (retE Q) [some a0, some a1, none, none] η) : CC (n + 1) (Str.ofString "_law_bent") [a0, a1] η Q := enter (f := f__law_bent) (by kernel_rfl) rfl rfl rfl h
theorem u__law_all_words {n : Nat} {η : Sto} {Q : DK} {a0 : D} (h : rdSs (CC n) GG o__law_all_words (retE Q) [some a0, none, none, none, none, none, none] η) : CC (n + 1) (Str.ofString "_law_all_words") [a0] η Q := enter (f := f__law_all_words) (by kernel_rfl) rfl rfl rfl h
theorem u__law_product {n : Nat} {η : Sto} {Q : DK} {a0 : D} (h : rdSs (CC n) GG o__law_product (retE Q) [some a0, none, none, none, none] η) : CC (n + 1) (Str.ofString "_law_product") [a0] η Q := enter (f := f__law_product) (by kernel_rfl) rfl rfl rfl h
theorem u__law_are_all_right {n : Nat} {η : Sto} {Q : DK} {a0 : D} (h : rdSs (CC n) GG o__law_are_all_right (retE Q) [some a0, none, none] η) : CC (n + 1) (Str.ofString "_law_are_all_right") [a0] η Q := enter (f := f__law_are_all_right) (by kernel_rfl) rfl rfl rfl h
theorem u__law_right {n : Nat} {η : Sto} {Q : DK} {a0 : D} (h : rdSs (CC n) GG o__law_right (retE Q) [some a0, none, none, none, none, none, none, none, none, none, none] η) : CC (n + 1) (Str.ofString "_law_right") [a0] η Q := enter (f := f__law_right) (by kernel_rfl) rfl rfl rfl h
theorem u_law {n : Nat} {η : Sto} {Q : DK} {a0 : D} (h : rdSs (CC n) GG o_law (retE Q) [some a0, none, none, none] η) : CC (n + 1) (Str.ofString "law") [a0] η Q := enter (f := f_law) (by kernel_rfl) rfl rfl rfl h
end K43

set_option Elab.async false
set_option linter.all false
set_option maxRecDepth 100000
set_option maxHeartbeats 4000000
/-! K43B: what the defs of k43 compute (written as K43B.src, pre.py prints it). -/
namespace K43
open PySem PySem.Spec PyProof.Rows L2 DL
abbrev S (x : String) : Str := Str.ofString x
section
variable {n : Nat} {η : Sto} {Q : DK}
theorem is_integer {a : D} {c : String} (hc : clsD a η c) (h : Q (.bl (c == "int")) η) : CC (n + 1) (S "is_integer") [a] η Q := by
  refine u_is_integer ?_
  simp only [o_is_integer, rE_var, rE_int, rE_str, rE_bl, rE_non, rE_glo, rE_bin, rE_neg, rE_cmp, rE_chn, rE_and, rE_or, rE_not, rE_ife, rE_idx, rE_slc, rE_rev, rE_tup, rE_lst, rE_dic, rE_call, rE_callk, rE_isI, rE_blt, rE_rng, rE_mth, rE_lc, rT_and, rT_or, rT_not, rT_cmp, rT_chn, rT_bl, rT_var, rT_call, rT_isI, rT_blt, rA_nil, rA_cons, rA_star, rTs_nil, rTs_one, rO_no, rO_yes, rI_of, rI_rng, rI_enm, rI_ez, rI_zip, rG_name, rG_tup, rG_sub, rGs_nil, rGs_cons, rS_asg, rS_par, rS_ex, rS_ret, rS_retN, rS_ife, rS_for, rS_whl, rS_never, rS_pass, rS_brk, rS_cont, rSs_nil, rSs_cons, o_add_i, o_sub_i, o_mul_i, o_fdiv_i, o_mod_i, o_pow_i, o_add_t, o_add_s, o_add_r, c_lt_i, c_le_i, c_gt_i, c_ge_i, i_tup, i_rl, i_ref, s_tup, s_rl, s_ref, r_tup, q_tup, q_rl, q_ref, l_rl, l_ref, t_append, t_extend, t_pop, m_append, m_extend, m_pop, st_ref, it_tup, it_rl, it_ref, rg_1, rg_2, z_2, z_3, dw_nil, dw_cons, b_abs, b_int, b_intb, b_stri, b_repr, b_lent, b_lenr, b_lenl, b_tuple, b_list, b_all, b_any, b_sum, b_max, b_min, b_sorted, List.getElem?_cons_zero, List.getElem?_cons_succ, List.set_cons_zero, List.set_cons_succ, ex_some, ex_bl, ex_int, Bool.false_eq_true, if_false, if_true, Tgs.len, DL.Tgs.len]
  refine ⟨c, hc, ?_⟩
  rcases clsD_in hc with e | e | e | e | e | e | e <;> subst e <;> simp [isCls] at h ⊢
  case inr.inl => exact ⟨_, hc, ret_of (by simpa using h)⟩
  case inr.inr.inl => exact ⟨_, hc, ret_of (by simpa using h)⟩
  all_goals exact ret_of h
theorem is_between_int {i lo hi : Int} (h : Q (.bl (decide (lo ≤ i ∧ i ≤ hi))) η) : CC (n + 2) (S "is_between") [.int i, .int lo, .int hi] η Q := by
  refine u_is_between ?_
  simp only [o_is_between, rE_var, rE_int, rE_str, rE_bl, rE_non, rE_glo, rE_bin, rE_neg, rE_cmp, rE_chn, rE_and, rE_or, rE_not, rE_ife, rE_idx, rE_slc, rE_rev, rE_tup, rE_lst, rE_dic, rE_call, rE_callk, rE_isI, rE_blt, rE_rng, rE_mth, rE_lc, rT_and, rT_or, rT_not, rT_cmp, rT_chn, rT_bl, rT_var, rT_call, rT_isI, rT_blt, rA_nil, rA_cons, rA_star, rTs_nil, rTs_one, rO_no, rO_yes, rI_of, rI_rng, rI_enm, rI_ez, rI_zip, rG_name, rG_tup, rG_sub, rGs_nil, rGs_cons, rS_asg, rS_par, rS_ex, rS_ret, rS_retN, rS_ife, rS_for, rS_whl, rS_never, rS_pass, rS_brk, rS_cont, rSs_nil, rSs_cons, o_add_i, o_sub_i, o_mul_i, o_fdiv_i, o_mod_i, o_pow_i, o_add_t, o_add_s, o_add_r, c_lt_i, c_le_i, c_gt_i, c_ge_i, i_tup, i_rl, i_ref, s_tup, s_rl, s_ref, r_tup, q_tup, q_rl, q_ref, l_rl, l_ref, t_append, t_extend, t_pop, m_append, m_extend, m_pop, st_ref, it_tup, it_rl, it_ref, rg_1, rg_2, z_2, z_3, dw_nil, dw_cons, b_abs, b_int, b_intb, b_stri, b_repr, b_lent, b_lenr, b_lenl, b_tuple, b_list, b_all, b_any, b_sum, b_max, b_min, b_sorted, List.getElem?_cons_zero, List.getElem?_cons_succ, List.set_cons_zero, List.set_cons_succ, ex_some, ex_bl, ex_int, Bool.false_eq_true, if_false, if_true, Tgs.len, DL.Tgs.len]
  refine is_integer (c := "int") rfl ⟨true, rfl, ?_⟩
  simp only [if_true]
  by_cases h1 : lo ≤ i
  · simp only [h1, decide_true, if_true]
    refine ret_of ?_
    simpa [h1] using h
  · simp only [h1, decide_false, Bool.false_eq_true, if_false]
    refine ret_of ?_
    simpa [h1] using h
theorem is_between_not {a : D} {c : String} {lo hi : D} (hc : clsD a η c) (hn : (c == "int") = false) (h : Q (.bl false) η) : CC (n + 2) (S "is_between") [a, lo, hi] η Q := by
  refine u_is_between ?_
  simp only [o_is_between, rE_var, rE_int, rE_str, rE_bl, rE_non, rE_glo, rE_bin, rE_neg, rE_cmp, rE_chn, rE_and, rE_or, rE_not, rE_ife, rE_idx, rE_slc, rE_rev, rE_tup, rE_lst, rE_dic, rE_call, rE_callk, rE_isI, rE_blt, rE_rng, rE_mth, rE_lc, rT_and, rT_or, rT_not, rT_cmp, rT_chn, rT_bl, rT_var, rT_call, rT_isI, rT_blt, rA_nil, rA_cons, rA_star, rTs_nil, rTs_one, rO_no, rO_yes, rI_of, rI_rng, rI_enm, rI_ez, rI_zip, rG_name, rG_tup, rG_sub, rGs_nil, rGs_cons, rS_asg, rS_par, rS_ex, rS_ret, rS_retN, rS_ife, rS_for, rS_whl, rS_never, rS_pass, rS_brk, rS_cont, rSs_nil, rSs_cons, o_add_i, o_sub_i, o_mul_i, o_fdiv_i, o_mod_i, o_pow_i, o_add_t, o_add_s, o_add_r, c_lt_i, c_le_i, c_gt_i, c_ge_i, i_tup, i_rl, i_ref, s_tup, s_rl, s_ref, r_tup, q_tup, q_rl, q_ref, l_rl, l_ref, t_append, t_extend, t_pop, m_append, m_extend, m_pop, st_ref, it_tup, it_rl, it_ref, rg_1, rg_2, z_2, z_3, dw_nil, dw_cons, b_abs, b_int, b_intb, b_stri, b_repr, b_lent, b_lenr, b_lenl, b_tuple, b_list, b_all, b_any, b_sum, b_max, b_min, b_sorted, List.getElem?_cons_zero, List.getElem?_cons_succ, List.set_cons_zero, List.set_cons_succ, ex_some, ex_bl, ex_int, Bool.false_eq_true, if_false, if_true, Tgs.len, DL.Tgs.len]
  refine is_integer hc ⟨_, rfl, ?_⟩
  rw [hn]
  simp only [Bool.false_eq_true, if_false]
  exact ret_of h
theorem check_many {m most : Int} (h1 : 1 ≤ m) (h2 : m ≤ most) (h : Q .non η) : CC (n + 3) (S "check_many") [.int m, .int most] η Q := by
  refine u_check_many ?_
  simp only [o_check_many, rE_var, rE_int, rE_str, rE_bl, rE_non, rE_glo, rE_bin, rE_neg, rE_cmp, rE_chn, rE_and, rE_or, rE_not, rE_ife, rE_idx, rE_slc, rE_rev, rE_tup, rE_lst, rE_dic, rE_call, rE_callk, rE_isI, rE_blt, rE_rng, rE_mth, rE_lc, rT_and, rT_or, rT_not, rT_cmp, rT_chn, rT_bl, rT_var, rT_call, rT_isI, rT_blt, rA_nil, rA_cons, rA_star, rTs_nil, rTs_one, rO_no, rO_yes, rI_of, rI_rng, rI_enm, rI_ez, rI_zip, rG_name, rG_tup, rG_sub, rGs_nil, rGs_cons, rS_asg, rS_par, rS_ex, rS_ret, rS_retN, rS_ife, rS_for, rS_whl, rS_never, rS_pass, rS_brk, rS_cont, rSs_nil, rSs_cons, o_add_i, o_sub_i, o_mul_i, o_fdiv_i, o_mod_i, o_pow_i, o_add_t, o_add_s, o_add_r, c_lt_i, c_le_i, c_gt_i, c_ge_i, i_tup, i_rl, i_ref, s_tup, s_rl, s_ref, r_tup, q_tup, q_rl, q_ref, l_rl, l_ref, t_append, t_extend, t_pop, m_append, m_extend, m_pop, st_ref, it_tup, it_rl, it_ref, rg_1, rg_2, z_2, z_3, dw_nil, dw_cons, b_abs, b_int, b_intb, b_stri, b_repr, b_lent, b_lenr, b_lenl, b_tuple, b_list, b_all, b_any, b_sum, b_max, b_min, b_sorted, List.getElem?_cons_zero, List.getElem?_cons_succ, List.set_cons_zero, List.set_cons_succ, ex_some, ex_bl, ex_int, Bool.false_eq_true, if_false, if_true, Tgs.len, DL.Tgs.len]
  refine is_between_int ⟨_, rfl, ?_⟩
  simp [h1, h2]
  exact nx_of h
/-- the row with the items at i and behind it exchanged -/
def ex {α : Type} (r : List α) (i : Nat) : List α := match r[i]?, r[i + 1]? with
  | some a, some b => r.take i ++ (b :: a :: r.drop (i + 2))
  | _, _ => r
theorem ex_of {α : Type} {r : List α} {i : Nat} {a b : α} (ha : r[i]? = some a) (hb : r[i + 1]? = some b) : ex r i = r.take i ++ (b :: a :: r.drop (i + 2)) := by
  unfold ex; rw [ha, hb]
theorem ex_map {α β : Type} (f : α → β) (r : List α) (i : Nat) : ex (r.map f) i = (ex r i).map f := by
  unfold ex
  rw [List.getElem?_map, List.getElem?_map]
  cases r[i]? <;> cases r[i + 1]? <;> simp
theorem ex_len {α : Type} (r : List α) (i : Nat) : (ex r i).length = r.length := by
  unfold ex
  cases h : r[i]? with
  | none => rfl
  | some a =>
    cases h2 : r[i + 1]? with
    | none => rfl
    | some b =>
      have := (List.getElem?_eq_some_iff.mp h2).1
      simp
      omega
theorem exchanged {r : List D} {i : Nat} (h1 : i + 1 < r.length) (hs : r.length ≤ sizeLine) (h : Q (.tup (ex r i)) η) : CC (n + 1) (S "exchanged") [.tup r, .int (i : Int)] η Q := by
  refine u_exchanged ?_
  have ha : r[i]? = some r[i] := by simp
  have hb : r[i + 1]? = some r[i + 1] := by simp [h1]
  simp only [o_exchanged, rE_var, rE_int, rE_str, rE_bl, rE_non, rE_glo, rE_bin, rE_neg, rE_cmp, rE_chn, rE_and, rE_or, rE_not, rE_ife, rE_idx, rE_slc, rE_rev, rE_tup, rE_lst, rE_dic, rE_call, rE_callk, rE_isI, rE_blt, rE_rng, rE_mth, rE_lc, rT_and, rT_or, rT_not, rT_cmp, rT_chn, rT_bl, rT_var, rT_call, rT_isI, rT_blt, rA_nil, rA_cons, rA_star, rTs_nil, rTs_one, rO_no, rO_yes, rI_of, rI_rng, rI_enm, rI_ez, rI_zip, rG_name, rG_tup, rG_sub, rGs_nil, rGs_cons, rS_asg, rS_par, rS_ex, rS_ret, rS_retN, rS_ife, rS_for, rS_whl, rS_never, rS_pass, rS_brk, rS_cont, rSs_nil, rSs_cons, o_add_i, o_sub_i, o_mul_i, o_fdiv_i, o_mod_i, o_pow_i, o_add_t, o_add_s, o_add_r, c_lt_i, c_le_i, c_gt_i, c_ge_i, i_tup, i_rl, i_ref, s_tup, s_rl, s_ref, r_tup, q_tup, q_rl, q_ref, l_rl, l_ref, t_append, t_extend, t_pop, m_append, m_extend, m_pop, st_ref, it_tup, it_rl, it_ref, rg_1, rg_2, z_2, z_3, dw_nil, dw_cons, b_abs, b_int, b_intb, b_stri, b_repr, b_lent, b_lenr, b_lenl, b_tuple, b_list, b_all, b_any, b_sum, b_max, b_min, b_sorted, List.getElem?_cons_zero, List.getElem?_cons_succ, List.set_cons_zero, List.set_cons_succ, ex_some, ex_bl, ex_int, Bool.false_eq_true, if_false, if_true, Tgs.len, DL.Tgs.len]
  refine ⟨_, rfl, _, atI_nat hb, _, atI_nat ha, _, rfl, ?_⟩
  have e2 : ((i : Int) + 2) = ((i + 2 : Nat) : Int) := by omega
  rw [cut_to, e2, cut_from, List.append_nil]
  rw [ex_of ha hb] at h
  refine ⟨?_, ret_of h⟩
  simp
  omega
/-- ints as data -/
def tI (l : List Int) : D := .tup (l.map .int)
def rg (m : Nat) : List Int := (List.range m).map fun (i : Nat) => (i : Int)
def wL (w : List Nat) : List D := w.map fun (a : Nat) => .int (a : Int)
def wD (w : List Nat) : D := .tup (wL w)
theorem rgD_rg (m : Nat) : rngD 0 (m : Int) = (rg m).map D.int := by
  unfold rngD rg
  simp
theorem rg_len (m : Nat) : (rg m).length = m := by unfold rg; simp
/-- all rows that a word goes through -/
def rowsF (r : List Int) : List Nat → List (List Int)
  | [] => [r]
  | a :: w => r :: rowsF (ex r a) w
def lastF (r : List Int) (w : List Nat) : List Int := w.foldl ex r
theorem rowsF_snoc (r : List Int) (w : List Nat) (a : Nat) : rowsF r (w ++ [a]) = rowsF r w ++ [ex (lastF r w) a] := by
  induction w generalizing r with
  | nil => rfl
  | cons b w ih => simp only [List.cons_append, rowsF, ih]; rfl
theorem rowsF_last (r : List Int) (w : List Nat) : ∃ l, rowsF r w = l ++ [lastF r w] := by
  induction w generalizing r with
  | nil => exact ⟨[], rfl⟩
  | cons b w ih =>
    obtain ⟨l, e⟩ := ih (ex r b)
    exact ⟨r :: l, by simp only [rowsF, e]; rfl⟩
theorem rowsF_len (r : List Int) (w : List Nat) : (rowsF r w).length = w.length + 1 := by
  induction w generalizing r with
  | nil => rfl
  | cons b w ih => simp only [rowsF, List.length_cons, ih]
theorem lastF_len (r : List Int) (w : List Nat) : (lastF r w).length = r.length := by
  induction w generalizing r with
  | nil => rfl
  | cons b w ih =>
    show (lastF (ex r b) w).length = _
    rw [ih, ex_len]
theorem size_of {a : Nat} (h : a ≤ 16777216) : a ≤ sizeLine := by rw [sizeLine_eq]; exact h
theorem inR_nat {m : Nat} (h : m ≤ 1000000) : inR (m : Int) := ⟨by omega, by omega⟩
theorem rows_by {m : Nat} {w : List Nat} (hm : m ≤ 1000) (hw : ∀ a ∈ w, a + 1 < m) (hl : w.length ≤ 1000000) (h : ∀ q, η q = none → Q (.ref q) (put η q (.lst ((rowsF (rg m) w).map tI)))) : CC (n + 2) (S "rows_by") [.int (m : Int), wD w] η Q := by
  refine u_rows_by ?_
  have hw' : wD w = .tup (w.map fun (a : Nat) => .int (a : Int)) := rfl
  simp only [o_rows_by, rE_var, rE_int, rE_str, rE_bl, rE_non, rE_glo, rE_bin, rE_neg, rE_cmp, rE_chn, rE_and, rE_or, rE_not, rE_ife, rE_idx, rE_slc, rE_rev, rE_tup, rE_lst, rE_dic, rE_call, rE_callk, rE_isI, rE_blt, rE_rng, rE_mth, rE_lc, rT_and, rT_or, rT_not, rT_cmp, rT_chn, rT_bl, rT_var, rT_call, rT_isI, rT_blt, rA_nil, rA_cons, rA_star, rTs_nil, rTs_one, rO_no, rO_yes, rI_of, rI_rng, rI_enm, rI_ez, rI_zip, rG_name, rG_tup, rG_sub, rGs_nil, rGs_cons, rS_asg, rS_par, rS_ex, rS_ret, rS_retN, rS_ife, rS_for, rS_whl, rS_never, rS_pass, rS_brk, rS_cont, rSs_nil, rSs_cons, o_add_i, o_sub_i, o_mul_i, o_fdiv_i, o_mod_i, o_pow_i, o_add_t, o_add_s, o_add_r, c_lt_i, c_le_i, c_gt_i, c_ge_i, i_tup, i_rl, i_ref, s_tup, s_rl, s_ref, r_tup, q_tup, q_rl, q_ref, l_rl, l_ref, t_append, t_extend, t_pop, m_append, m_extend, m_pop, st_ref, it_tup, it_rl, it_ref, rg_1, rg_2, z_2, z_3, dw_nil, dw_cons, b_abs, b_int, b_intb, b_stri, b_repr, b_lent, b_lenr, b_lenl, b_tuple, b_list, b_all, b_any, b_sum, b_max, b_min, b_sorted, List.getElem?_cons_zero, List.getElem?_cons_succ, List.set_cons_zero, List.set_cons_succ, ex_some, ex_bl, ex_int, Bool.false_eq_true, if_false, if_true, Tgs.len, DL.Tgs.len]
  refine ⟨inR_nat (by omega), size_of (by omega), size_of (by simp), fun p hp => ?_⟩
  rw [rgD_rg, hw']
  simp only [rE_var, rE_int, rE_str, rE_bl, rE_non, rE_glo, rE_bin, rE_neg, rE_cmp, rE_chn, rE_and, rE_or, rE_not, rE_ife, rE_idx, rE_slc, rE_rev, rE_tup, rE_lst, rE_dic, rE_call, rE_callk, rE_isI, rE_blt, rE_rng, rE_mth, rE_lc, rT_and, rT_or, rT_not, rT_cmp, rT_chn, rT_bl, rT_var, rT_call, rT_isI, rT_blt, rA_nil, rA_cons, rA_star, rTs_nil, rTs_one, rO_no, rO_yes, rI_of, rI_rng, rI_enm, rI_ez, rI_zip, rG_name, rG_tup, rG_sub, rGs_nil, rGs_cons, rS_asg, rS_par, rS_ex, rS_ret, rS_retN, rS_ife, rS_for, rS_whl, rS_never, rS_pass, rS_brk, rS_cont, rSs_nil, rSs_cons, o_add_i, o_sub_i, o_mul_i, o_fdiv_i, o_mod_i, o_pow_i, o_add_t, o_add_s, o_add_r, c_lt_i, c_le_i, c_gt_i, c_ge_i, i_tup, i_rl, i_ref, s_tup, s_rl, s_ref, r_tup, q_tup, q_rl, q_ref, l_rl, l_ref, t_append, t_extend, t_pop, m_append, m_extend, m_pop, st_ref, it_tup, it_rl, it_ref, rg_1, rg_2, z_2, z_3, dw_nil, dw_cons, b_abs, b_int, b_intb, b_stri, b_repr, b_lent, b_lenr, b_lenl, b_tuple, b_list, b_all, b_any, b_sum, b_max, b_min, b_sorted, List.getElem?_cons_zero, List.getElem?_cons_succ, List.set_cons_zero, List.set_cons_succ, ex_some, ex_bl, ex_int, Bool.false_eq_true, if_false, if_true, Tgs.len, DL.Tgs.len]
  refine for_of (rdC_mono _) (fun i δ η' => η' = put η p (.lst ((rowsF (rg m) (w.take i)).map tI)) ∧ ∃ d, δ = [some (.int (m : Int)), some (wD w), some (.ref p), d]) (fun i x δ η' hx hj => ?_) (fun δ η' hj => ?_) ⟨rfl, none, rfl⟩
  · obtain ⟨rfl, d, rfl⟩ := hj
    rw [List.getElem?_map] at hx
    cases hwi : w[i]? with
    | none => rw [hwi] at hx; cases hx
    | some a =>
      rw [hwi] at hx
      cases hx
      have ha : a + 1 < m := hw a (List.mem_of_getElem? hwi)
      have hi : i < w.length := (List.getElem?_eq_some_iff.mp hwi).1
      obtain ⟨l, el⟩ := rowsF_last (rg m) (w.take i)
      have eL : (rowsF (rg m) (w.take i)).map tI = l.map tI ++ [tI (lastF (rg m) (w.take i))] := by rw [el]; simp
      refine ⟨trivial, ?_⟩
      simp only [rE_var, rE_int, rE_str, rE_bl, rE_non, rE_glo, rE_bin, rE_neg, rE_cmp, rE_chn, rE_and, rE_or, rE_not, rE_ife, rE_idx, rE_slc, rE_rev, rE_tup, rE_lst, rE_dic, rE_call, rE_callk, rE_isI, rE_blt, rE_rng, rE_mth, rE_lc, rT_and, rT_or, rT_not, rT_cmp, rT_chn, rT_bl, rT_var, rT_call, rT_isI, rT_blt, rA_nil, rA_cons, rA_star, rTs_nil, rTs_one, rO_no, rO_yes, rI_of, rI_rng, rI_enm, rI_ez, rI_zip, rG_name, rG_tup, rG_sub, rGs_nil, rGs_cons, rS_asg, rS_par, rS_ex, rS_ret, rS_retN, rS_ife, rS_for, rS_whl, rS_never, rS_pass, rS_brk, rS_cont, rSs_nil, rSs_cons, o_add_i, o_sub_i, o_mul_i, o_fdiv_i, o_mod_i, o_pow_i, o_add_t, o_add_s, o_add_r, c_lt_i, c_le_i, c_gt_i, c_ge_i, i_tup, i_rl, i_ref, s_tup, s_rl, s_ref, r_tup, q_tup, q_rl, q_ref, l_rl, l_ref, t_append, t_extend, t_pop, m_append, m_extend, m_pop, st_ref, it_tup, it_rl, it_ref, rg_1, rg_2, z_2, z_3, dw_nil, dw_cons, b_abs, b_int, b_intb, b_stri, b_repr, b_lent, b_lenr, b_lenl, b_tuple, b_list, b_all, b_any, b_sum, b_max, b_min, b_sorted, List.getElem?_cons_zero, List.getElem?_cons_succ, List.set_cons_zero, List.set_cons_succ, ex_some, ex_bl, ex_int, Bool.false_eq_true, if_false, if_true, Tgs.len, DL.Tgs.len]
      refine ⟨⟨_, put_same⟩, _, _, put_same, by rw [eL]; exact atI_last _ _, ?_⟩
      refine exchanged (by rw [List.length_map, lastF_len, rg_len]; exact ha) (size_of (by rw [List.length_map, lastF_len, rg_len]; omega)) ⟨_, put_same, ?_, ?_, ?_⟩
      · rw [List.length_map, rowsF_len, List.length_take, sizeLine_eq]; omega
      · rw [put_put, List.take_add_one, hwi, Option.toList_some, rowsF_snoc, List.map_append, ex_map]; rfl
      · exact ⟨_, rfl⟩
  · obtain ⟨rfl, d, rfl⟩ := hj
    refine ⟨trivial, ?_⟩
    simp only [rE_var, rE_int, rE_str, rE_bl, rE_non, rE_glo, rE_bin, rE_neg, rE_cmp, rE_chn, rE_and, rE_or, rE_not, rE_ife, rE_idx, rE_slc, rE_rev, rE_tup, rE_lst, rE_dic, rE_call, rE_callk, rE_isI, rE_blt, rE_rng, rE_mth, rE_lc, rT_and, rT_or, rT_not, rT_cmp, rT_chn, rT_bl, rT_var, rT_call, rT_isI, rT_blt, rA_nil, rA_cons, rA_star, rTs_nil, rTs_one, rO_no, rO_yes, rI_of, rI_rng, rI_enm, rI_ez, rI_zip, rG_name, rG_tup, rG_sub, rGs_nil, rGs_cons, rS_asg, rS_par, rS_ex, rS_ret, rS_retN, rS_ife, rS_for, rS_whl, rS_never, rS_pass, rS_brk, rS_cont, rSs_nil, rSs_cons, o_add_i, o_sub_i, o_mul_i, o_fdiv_i, o_mod_i, o_pow_i, o_add_t, o_add_s, o_add_r, c_lt_i, c_le_i, c_gt_i, c_ge_i, i_tup, i_rl, i_ref, s_tup, s_rl, s_ref, r_tup, q_tup, q_rl, q_ref, l_rl, l_ref, t_append, t_extend, t_pop, m_append, m_extend, m_pop, st_ref, it_tup, it_rl, it_ref, rg_1, rg_2, z_2, z_3, dw_nil, dw_cons, b_abs, b_int, b_intb, b_stri, b_repr, b_lent, b_lenr, b_lenl, b_tuple, b_list, b_all, b_any, b_sum, b_max, b_min, b_sorted, List.getElem?_cons_zero, List.getElem?_cons_succ, List.set_cons_zero, List.set_cons_succ, ex_some, ex_bl, ex_int, Bool.false_eq_true, if_false, if_true, Tgs.len, DL.Tgs.len]
    refine ret_of ?_
    rw [List.length_map, List.take_length]
    exact h p hp
/-! ### is a value a word -/
def tri (m : Nat) : Nat := m * (m - 1) / 2
def okX (m : Nat) : D → Bool
  | .int i => decide (0 ≤ i ∧ i ≤ (m : Int) - 2)
  | _ => false
def letr : D → Nat
  | .int i => i.toNat
  | _ => 0
def isW (m : Nat) (xs : List D) : Bool := decide (xs.length = tri m) && (xs.all (okX m) && decide (lastF (rg m) (xs.map letr) = (rg m).reverse))
theorem tri_int {m : Nat} (h : 1 ≤ m) : ((m : Int) * ((m : Int) - 1)) / 2 = ((tri m : Nat) : Int) := by
  unfold tri
  obtain ⟨k, rfl⟩ : ∃ k, m = k + 1 := ⟨m - 1, by omega⟩
  have e : ((k + 1 : Nat) : Int) * (((k + 1 : Nat) : Int) - 1) = (((k + 1) * (k + 1 - 1) : Nat) : Int) := by
    rw [Nat.add_sub_cancel]
    have : ((k + 1 : Nat) : Int) - 1 = (k : Int) := by omega
    rw [this]
    exact (Int.natCast_mul (k + 1) k).symm
  rw [e]
  omega
theorem word_of {m : Nat} {xs : List D} (h : xs.all (okX m) = true) : .tup xs = wD (xs.map letr) ∧ ∀ a ∈ xs.map letr, a + 1 < m := by
  have each : ∀ x ∈ xs, x = .int ((letr x : Nat) : Int) ∧ letr x + 1 < m := by
    intro x hx
    have q := List.all_eq_true.mp h x hx
    cases x with
    | int i =>
      have q' : 0 ≤ i ∧ i ≤ (m : Int) - 2 := of_decide_eq_true q
      have e : ((letr (.int i) : Nat) : Int) = i := by show ((i.toNat : Nat) : Int) = i; omega
      exact ⟨by rw [e], by omega⟩
    | _ => exact Bool.noConfusion q
  constructor
  · unfold wD wL
    rw [List.map_map]
    have e : xs.map ((fun (a : Nat) => D.int (a : Int)) ∘ letr) = xs.map id := List.map_congr_left fun x hx => (each x hx).1.symm
    rw [e, List.map_id]
  · intro a ha
    obtain ⟨x, hx, rfl⟩ := List.mem_map.mp ha
    exact (each x hx).2
theorem all_bl {η : Sto} {p : Addr} {l : List Bool} {Q : Bool → Sto → Prop} {ηr : Sto} (s : Sub ηr (put η p (.lst (l.map .bl)))) (h : Q (l.all id) ηr) : bltD .all [.ref p] (put η p (.lst (l.map .bl))) fun d η2 => ∃ b η3, d = .bl b ∧ Sub η3 η2 ∧ Q b η3 := by
  rw [b_all]
  exact ⟨l, put_same, _, _, rfl, s, h⟩
theorem sub_new {η : Sto} {p : Addr} {o : MO} (h : η p = none) : Sub η (put η p o) := Sub.new h
theorem is_word_of_not {v : D} {m : Int} {c : String} (hc : clsD v η c) (hn : isCls c "tuple" = false) (h : Q (.bl false) η) : CC (n + 4) (S "is_word_of") [.int m, v] η Q := by
  refine u_is_word_of ?_
  simp only [o_is_word_of, rE_var, rE_int, rE_str, rE_bl, rE_non, rE_glo, rE_bin, rE_neg, rE_cmp, rE_chn, rE_and, rE_or, rE_not, rE_ife, rE_idx, rE_slc, rE_rev, rE_tup, rE_lst, rE_dic, rE_call, rE_callk, rE_isI, rE_blt, rE_rng, rE_mth, rE_lc, rT_and, rT_or, rT_not, rT_cmp, rT_chn, rT_bl, rT_var, rT_call, rT_isI, rT_blt, rA_nil, rA_cons, rA_star, rTs_nil, rTs_one, rO_no, rO_yes, rI_of, rI_rng, rI_enm, rI_ez, rI_zip, rG_name, rG_tup, rG_sub, rGs_nil, rGs_cons, rS_asg, rS_par, rS_ex, rS_ret, rS_retN, rS_ife, rS_for, rS_whl, rS_never, rS_pass, rS_brk, rS_cont, rSs_nil, rSs_cons, o_add_i, o_sub_i, o_mul_i, o_fdiv_i, o_mod_i, o_pow_i, o_add_t, o_add_s, o_add_r, c_lt_i, c_le_i, c_gt_i, c_ge_i, i_tup, i_rl, i_ref, s_tup, s_rl, s_ref, r_tup, q_tup, q_rl, q_ref, l_rl, l_ref, t_append, t_extend, t_pop, m_append, m_extend, m_pop, st_ref, it_tup, it_rl, it_ref, rg_1, rg_2, z_2, z_3, dw_nil, dw_cons, b_abs, b_int, b_intb, b_stri, b_repr, b_lent, b_lenr, b_lenl, b_tuple, b_list, b_all, b_any, b_sum, b_max, b_min, b_sorted, List.getElem?_cons_zero, List.getElem?_cons_succ, List.set_cons_zero, List.set_cons_succ, ex_some, ex_bl, ex_int, Bool.false_eq_true, if_false, if_true, Tgs.len, DL.Tgs.len]
  refine ⟨c, hc, ?_⟩
  simp only [hn, Bool.not_false, if_true]
  exact ret_of h
theorem is_word_of_tup {m : Nat} {xs : List D} (h1 : 1 ≤ m) (h9 : m ≤ 9) (hx : ∀ x ∈ xs, ∃ c, clsD x η c) (hl : xs.length ≤ 100000) (h : Q (.bl (isW m xs)) η) : CC (n + 4) (S "is_word_of") [.int (m : Int), .tup xs] η Q := by
  refine u_is_word_of ?_
  simp only [o_is_word_of, rE_var, rE_int, rE_str, rE_bl, rE_non, rE_glo, rE_bin, rE_neg, rE_cmp, rE_chn, rE_and, rE_or, rE_not, rE_ife, rE_idx, rE_slc, rE_rev, rE_tup, rE_lst, rE_dic, rE_call, rE_callk, rE_isI, rE_blt, rE_rng, rE_mth, rE_lc, rT_and, rT_or, rT_not, rT_cmp, rT_chn, rT_bl, rT_var, rT_call, rT_isI, rT_blt, rA_nil, rA_cons, rA_star, rTs_nil, rTs_one, rO_no, rO_yes, rI_of, rI_rng, rI_enm, rI_ez, rI_zip, rG_name, rG_tup, rG_sub, rGs_nil, rGs_cons, rS_asg, rS_par, rS_ex, rS_ret, rS_retN, rS_ife, rS_for, rS_whl, rS_never, rS_pass, rS_brk, rS_cont, rSs_nil, rSs_cons, o_add_i, o_sub_i, o_mul_i, o_fdiv_i, o_mod_i, o_pow_i, o_add_t, o_add_s, o_add_r, c_lt_i, c_le_i, c_gt_i, c_ge_i, i_tup, i_rl, i_ref, s_tup, s_rl, s_ref, r_tup, q_tup, q_rl, q_ref, l_rl, l_ref, t_append, t_extend, t_pop, m_append, m_extend, m_pop, st_ref, it_tup, it_rl, it_ref, rg_1, rg_2, z_2, z_3, dw_nil, dw_cons, b_abs, b_int, b_intb, b_stri, b_repr, b_lent, b_lenr, b_lenl, b_tuple, b_list, b_all, b_any, b_sum, b_max, b_min, b_sorted, List.getElem?_cons_zero, List.getElem?_cons_succ, List.set_cons_zero, List.set_cons_succ, ex_some, ex_bl, ex_int, Bool.false_eq_true, if_false, if_true, Tgs.len, DL.Tgs.len]
  refine ⟨"tuple", rfl, ?_⟩
  simp only [show isCls "tuple" "tuple" = true by decide, Bool.not_true, Bool.false_eq_true, if_false]
  refine ⟨xs, rfl, η, Sub.refl η, mul_l (by omega), ⟨by decide, by decide⟩, cne_i ?_⟩
  rw [tri_int h1]
  by_cases hlen : xs.length = tri m
  case neg =>
    have e : (!decide ((xs.length : Int) = ((tri m : Nat) : Int))) = true := by simp; omega
    rw [e]
    simp only [if_true]
    refine ret_of ?_
    unfold isW at h
    rw [decide_eq_false hlen, Bool.false_and] at h
    exact h
  case pos =>
    have e : (!decide ((xs.length : Int) = ((tri m : Nat) : Int))) = false := by simp; omega
    rw [e]
    simp only [rE_var, rE_int, rE_str, rE_bl, rE_non, rE_glo, rE_bin, rE_neg, rE_cmp, rE_chn, rE_and, rE_or, rE_not, rE_ife, rE_idx, rE_slc, rE_rev, rE_tup, rE_lst, rE_dic, rE_call, rE_callk, rE_isI, rE_blt, rE_rng, rE_mth, rE_lc, rT_and, rT_or, rT_not, rT_cmp, rT_chn, rT_bl, rT_var, rT_call, rT_isI, rT_blt, rA_nil, rA_cons, rA_star, rTs_nil, rTs_one, rO_no, rO_yes, rI_of, rI_rng, rI_enm, rI_ez, rI_zip, rG_name, rG_tup, rG_sub, rGs_nil, rGs_cons, rS_asg, rS_par, rS_ex, rS_ret, rS_retN, rS_ife, rS_for, rS_whl, rS_never, rS_pass, rS_brk, rS_cont, rSs_nil, rSs_cons, o_add_i, o_sub_i, o_mul_i, o_fdiv_i, o_mod_i, o_pow_i, o_add_t, o_add_s, o_add_r, c_lt_i, c_le_i, c_gt_i, c_ge_i, i_tup, i_rl, i_ref, s_tup, s_rl, s_ref, r_tup, q_tup, q_rl, q_ref, l_rl, l_ref, t_append, t_extend, t_pop, m_append, m_extend, m_pop, st_ref, it_tup, it_rl, it_ref, rg_1, rg_2, z_2, z_3, dw_nil, dw_cons, b_abs, b_int, b_intb, b_stri, b_repr, b_lent, b_lenr, b_lenl, b_tuple, b_list, b_all, b_any, b_sum, b_max, b_min, b_sorted, List.getElem?_cons_zero, List.getElem?_cons_succ, List.set_cons_zero, List.set_cons_succ, ex_some, ex_bl, ex_int, Bool.false_eq_true, if_false, if_true, Tgs.len, DL.Tgs.len]
    intro p hp
    refine lc_of (rdC_mono _) η (fun x => some (.bl (okX m x))) (fun _ => trivial) (fun x hxm acc => ?_) (by rw [sizeLine_eq]; omega) ?_
    · obtain ⟨c, hc⟩ := hx x hxm
      simp only [rE_var, rE_int, rE_str, rE_bl, rE_non, rE_glo, rE_bin, rE_neg, rE_cmp, rE_chn, rE_and, rE_or, rE_not, rE_ife, rE_idx, rE_slc, rE_rev, rE_tup, rE_lst, rE_dic, rE_call, rE_callk, rE_isI, rE_blt, rE_rng, rE_mth, rE_lc, rT_and, rT_or, rT_not, rT_cmp, rT_chn, rT_bl, rT_var, rT_call, rT_isI, rT_blt, rA_nil, rA_cons, rA_star, rTs_nil, rTs_one, rO_no, rO_yes, rI_of, rI_rng, rI_enm, rI_ez, rI_zip, rG_name, rG_tup, rG_sub, rGs_nil, rGs_cons, rS_asg, rS_par, rS_ex, rS_ret, rS_retN, rS_ife, rS_for, rS_whl, rS_never, rS_pass, rS_brk, rS_cont, rSs_nil, rSs_cons, o_add_i, o_sub_i, o_mul_i, o_fdiv_i, o_mod_i, o_pow_i, o_add_t, o_add_s, o_add_r, c_lt_i, c_le_i, c_gt_i, c_ge_i, i_tup, i_rl, i_ref, s_tup, s_rl, s_ref, r_tup, q_tup, q_rl, q_ref, l_rl, l_ref, t_append, t_extend, t_pop, m_append, m_extend, m_pop, st_ref, it_tup, it_rl, it_ref, rg_1, rg_2, z_2, z_3, dw_nil, dw_cons, b_abs, b_int, b_intb, b_stri, b_repr, b_lent, b_lenr, b_lenl, b_tuple, b_list, b_all, b_any, b_sum, b_max, b_min, b_sorted, List.getElem?_cons_zero, List.getElem?_cons_succ, List.set_cons_zero, List.set_cons_succ, ex_some, ex_bl, ex_int, Bool.false_eq_true, if_false, if_true, Tgs.len, DL.Tgs.len]
      refine ⟨trivial, trivial, .inr ⟨trivial, ?_⟩⟩
      by_cases hi : ∃ i, x = .int i
      · obtain ⟨i, rfl⟩ := hi
        exact is_between_int ⟨rfl, rfl⟩
      · have hok : okX m x = false := by cases x <;> first | rfl | exact absurd ⟨_, rfl⟩ hi
        have hc' : ∃ c', clsD x (put η p (.lst acc)) c' ∧ (c' == "int") = false := by
          cases x with
          | int i => exact absurd ⟨i, rfl⟩ hi
          | non => exact ⟨_, rfl, by decide⟩
          | bl b => exact ⟨_, rfl, by decide⟩
          | str b => exact ⟨_, rfl, by decide⟩
          | tup b => exact ⟨_, rfl, by decide⟩
          | rl b => exact ⟨_, rfl, by decide⟩
          | ref a =>
            rcases hc with ⟨ys, e, rfl⟩ | ⟨kvs, e, rfl⟩
            · exact ⟨"list", .inl ⟨ys, by rw [put_ne (ne_fresh e hp)]; exact e, rfl⟩, by decide⟩
            · exact ⟨"dict", .inr ⟨kvs, by rw [put_ne (ne_fresh e hp)]; exact e, rfl⟩, by decide⟩
        obtain ⟨c', k1, k2⟩ := hc'
        exact is_between_not k1 k2 ⟨by rw [hok], rfl⟩
    · rw [filterMap_map]
      have e2 : xs.map (fun x => D.bl (okX m x)) = (xs.map (okX m)).map .bl := by rw [List.map_map]; rfl
      rw [e2]
      refine all_bl (sub_new hp) ?_
      have e3 : (xs.map (okX m)).all id = xs.all (okX m) := by rw [List.all_map]; rfl
      rw [e3]
      by_cases hall : xs.all (okX m) = true
      case neg =>
        have e4 : xs.all (okX m) = false := by simpa using hall
        rw [e4]
        simp only [Bool.not_false, if_true]
        refine ret_of ?_
        unfold isW at h
        rw [e4, Bool.false_and, Bool.and_false] at h
        exact h
      case pos =>
        obtain ⟨w1, w2⟩ := word_of hall
        rw [hall]
        simp only [Bool.not_true, rE_var, rE_int, rE_str, rE_bl, rE_non, rE_glo, rE_bin, rE_neg, rE_cmp, rE_chn, rE_and, rE_or, rE_not, rE_ife, rE_idx, rE_slc, rE_rev, rE_tup, rE_lst, rE_dic, rE_call, rE_callk, rE_isI, rE_blt, rE_rng, rE_mth, rE_lc, rT_and, rT_or, rT_not, rT_cmp, rT_chn, rT_bl, rT_var, rT_call, rT_isI, rT_blt, rA_nil, rA_cons, rA_star, rTs_nil, rTs_one, rO_no, rO_yes, rI_of, rI_rng, rI_enm, rI_ez, rI_zip, rG_name, rG_tup, rG_sub, rGs_nil, rGs_cons, rS_asg, rS_par, rS_ex, rS_ret, rS_retN, rS_ife, rS_for, rS_whl, rS_never, rS_pass, rS_brk, rS_cont, rSs_nil, rSs_cons, o_add_i, o_sub_i, o_mul_i, o_fdiv_i, o_mod_i, o_pow_i, o_add_t, o_add_s, o_add_r, c_lt_i, c_le_i, c_gt_i, c_ge_i, i_tup, i_rl, i_ref, s_tup, s_rl, s_ref, r_tup, q_tup, q_rl, q_ref, l_rl, l_ref, t_append, t_extend, t_pop, m_append, m_extend, m_pop, st_ref, it_tup, it_rl, it_ref, rg_1, rg_2, z_2, z_3, dw_nil, dw_cons, b_abs, b_int, b_intb, b_stri, b_repr, b_lent, b_lenr, b_lenl, b_tuple, b_list, b_all, b_any, b_sum, b_max, b_min, b_sorted, List.getElem?_cons_zero, List.getElem?_cons_succ, List.set_cons_zero, List.set_cons_succ, ex_some, ex_bl, ex_int, Bool.false_eq_true, if_false, if_true, Tgs.len, DL.Tgs.len]
        rw [w1]
        refine rows_by (by omega) w2 (by rw [List.length_map]; omega) fun q hq => ?_
        obtain ⟨l, el⟩ := rowsF_last (rg m) (xs.map letr)
        have eL : (rowsF (rg m) (xs.map letr)).map tI = l.map tI ++ [tI (lastF (rg m) (xs.map letr))] := by rw [el]; simp
        simp only [rE_var, rE_int, rE_str, rE_bl, rE_non, rE_glo, rE_bin, rE_neg, rE_cmp, rE_chn, rE_and, rE_or, rE_not, rE_ife, rE_idx, rE_slc, rE_rev, rE_tup, rE_lst, rE_dic, rE_call, rE_callk, rE_isI, rE_blt, rE_rng, rE_mth, rE_lc, rT_and, rT_or, rT_not, rT_cmp, rT_chn, rT_bl, rT_var, rT_call, rT_isI, rT_blt, rA_nil, rA_cons, rA_star, rTs_nil, rTs_one, rO_no, rO_yes, rI_of, rI_rng, rI_enm, rI_ez, rI_zip, rG_name, rG_tup, rG_sub, rGs_nil, rGs_cons, rS_asg, rS_par, rS_ex, rS_ret, rS_retN, rS_ife, rS_for, rS_whl, rS_never, rS_pass, rS_brk, rS_cont, rSs_nil, rSs_cons, o_add_i, o_sub_i, o_mul_i, o_fdiv_i, o_mod_i, o_pow_i, o_add_t, o_add_s, o_add_r, c_lt_i, c_le_i, c_gt_i, c_ge_i, i_tup, i_rl, i_ref, s_tup, s_rl, s_ref, r_tup, q_tup, q_rl, q_ref, l_rl, l_ref, t_append, t_extend, t_pop, m_append, m_extend, m_pop, st_ref, it_tup, it_rl, it_ref, rg_1, rg_2, z_2, z_3, dw_nil, dw_cons, b_abs, b_int, b_intb, b_stri, b_repr, b_lent, b_lenr, b_lenl, b_tuple, b_list, b_all, b_any, b_sum, b_max, b_min, b_sorted, List.getElem?_cons_zero, List.getElem?_cons_succ, List.set_cons_zero, List.set_cons_succ, ex_some, ex_bl, ex_int, Bool.false_eq_true, if_false, if_true, Tgs.len, DL.Tgs.len]
        refine ⟨_, _, put_same, by rw [eL]; exact atI_last _ _, inR_nat (by omega), size_of (by omega), ?_⟩
        rw [rgD_rg, ← List.map_reverse]
        refine ceq_tI ?_
        refine ret_sub (sub_new hq) ?_
        unfold isW at h
        rw [decide_eq_true hlen, hall, Bool.true_and, Bool.true_and] at h
        exact h
end
end K43

set_option Elab.async false
set_option linter.all false
set_option maxRecDepth 100000
set_option maxHeartbeats 4000000
/-! K43C: words and rows, the program's and the law's. -/
namespace K43
open PySem PySem.Spec PyProof.Rows L2 DL
section
variable {n : Nat} {η : Sto} {Q : DK}
theorem ixN_nat {n j : Nat} (h : j < n) : ixN n (j : Int) = some j := by
  unfold ixN
  rw [if_pos (by omega), if_pos (by omega)]
  simp
theorem gg9 : GG (Str.ofString "MOST_MANY") = some (.int 9) := by kernel_rfl
theorem gg5 : GG (Str.ofString "MOST_TOLD") = some (.int 5) := by kernel_rfl
theorem is_word_tup {m : Nat} {xs : List D} (h1 : 1 ≤ m) (h9 : m ≤ 9) (hx : ∀ x ∈ xs, ∃ c, clsD x η c) (hl : xs.length ≤ 100000) (h : Q (.bl (isW m xs)) η) : CC (n + 5) (S "is_word") [.int (m : Int), .tup xs] η Q := by
  refine u_is_word ?_
  simp only [o_is_word, rE_var, rE_int, rE_str, rE_bl, rE_non, rE_glo, rE_bin, rE_neg, rE_cmp, rE_chn, rE_and, rE_or, rE_not, rE_ife, rE_idx, rE_slc, rE_rev, rE_tup, rE_lst, rE_dic, rE_call, rE_callk, rE_isI, rE_blt, rE_rng, rE_mth, rE_lc, rT_and, rT_or, rT_not, rT_cmp, rT_chn, rT_bl, rT_var, rT_call, rT_isI, rT_blt, rA_nil, rA_cons, rA_star, rTs_nil, rTs_one, rO_no, rO_yes, rI_of, rI_rng, rI_enm, rI_ez, rI_zip, rG_name, rG_tup, rG_sub, rGs_nil, rGs_cons, rS_asg, rS_par, rS_ex, rS_ret, rS_retN, rS_ife, rS_for, rS_whl, rS_never, rS_pass, rS_brk, rS_cont, rSs_nil, rSs_cons, o_add_i, o_sub_i, o_mul_i, o_fdiv_i, o_mod_i, o_pow_i, o_add_t, o_add_s, o_add_r, c_lt_i, c_le_i, c_gt_i, c_ge_i, i_tup, i_rl, i_ref, s_tup, s_rl, s_ref, r_tup, q_tup, q_rl, q_ref, l_rl, l_ref, t_append, t_extend, t_pop, m_append, m_extend, m_pop, st_ref, it_tup, it_rl, it_ref, rg_1, rg_2, z_2, z_3, dw_nil, dw_cons, b_abs, b_int, b_intb, b_stri, b_repr, b_lent, b_lenr, b_lenl, b_tuple, b_list, b_all, b_any, b_sum, b_max, b_min, b_sorted, List.getElem?_cons_zero, List.getElem?_cons_succ, List.set_cons_zero, List.set_cons_succ, ex_some, ex_bl, ex_int, Bool.false_eq_true, if_false, if_true, Tgs.len, DL.Tgs.len]
  refine ⟨_, gg9, check_many (by omega) (by omega) ?_⟩
  exact is_word_of_tup h1 h9 hx hl (ret_of h)
theorem is_word_not {v : D} {m : Nat} {c : String} (h1 : 1 ≤ m) (h9 : m ≤ 9) (hc : clsD v η c) (hn : isCls c "tuple" = false) (h : Q (.bl false) η) : CC (n + 5) (S "is_word") [.int (m : Int), v] η Q := by
  refine u_is_word ?_
  simp only [o_is_word, rE_var, rE_int, rE_str, rE_bl, rE_non, rE_glo, rE_bin, rE_neg, rE_cmp, rE_chn, rE_and, rE_or, rE_not, rE_ife, rE_idx, rE_slc, rE_rev, rE_tup, rE_lst, rE_dic, rE_call, rE_callk, rE_isI, rE_blt, rE_rng, rE_mth, rE_lc, rT_and, rT_or, rT_not, rT_cmp, rT_chn, rT_bl, rT_var, rT_call, rT_isI, rT_blt, rA_nil, rA_cons, rA_star, rTs_nil, rTs_one, rO_no, rO_yes, rI_of, rI_rng, rI_enm, rI_ez, rI_zip, rG_name, rG_tup, rG_sub, rGs_nil, rGs_cons, rS_asg, rS_par, rS_ex, rS_ret, rS_retN, rS_ife, rS_for, rS_whl, rS_never, rS_pass, rS_brk, rS_cont, rSs_nil, rSs_cons, o_add_i, o_sub_i, o_mul_i, o_fdiv_i, o_mod_i, o_pow_i, o_add_t, o_add_s, o_add_r, c_lt_i, c_le_i, c_gt_i, c_ge_i, i_tup, i_rl, i_ref, s_tup, s_rl, s_ref, r_tup, q_tup, q_rl, q_ref, l_rl, l_ref, t_append, t_extend, t_pop, m_append, m_extend, m_pop, st_ref, it_tup, it_rl, it_ref, rg_1, rg_2, z_2, z_3, dw_nil, dw_cons, b_abs, b_int, b_intb, b_stri, b_repr, b_lent, b_lenr, b_lenl, b_tuple, b_list, b_all, b_any, b_sum, b_max, b_min, b_sorted, List.getElem?_cons_zero, List.getElem?_cons_succ, List.set_cons_zero, List.set_cons_succ, ex_some, ex_bl, ex_int, Bool.false_eq_true, if_false, if_true, Tgs.len, DL.Tgs.len]
  refine ⟨_, gg9, check_many (by omega) (by omega) ?_⟩
  exact is_word_of_not hc hn (ret_of h)
/-- a word for so many -/
structure GW (m : Nat) (w : List Nat) : Prop where
  len : w.length = tri m
  let_ : ∀ a ∈ w, a + 1 < m
  last : lastF (rg m) w = (rg m).reverse
theorem wD_eq (w : List Nat) : wD w = .tup (wL w) := rfl
theorem wL_letr (w : List Nat) : (wL w).map letr = w := by
  unfold wL
  rw [List.map_map]
  exact List.map_id'' (fun a => by show ((a : Int)).toNat = a; simp) w
theorem wL_all {m : Nat} {w : List Nat} (h : ∀ a ∈ w, a + 1 < m) : (wL w).all (okX m) = true := by
  rw [List.all_eq_true]
  intro x hx
  obtain ⟨a, ha, rfl⟩ := List.mem_map.mp hx
  have := h a ha
  show decide (0 ≤ (a : Int) ∧ (a : Int) ≤ (m : Int) - 2) = true
  simp
  omega
theorem GW.isW {m : Nat} {w : List Nat} (g : GW m w) : isW m (wL w) = true := by
  unfold K43.isW
  rw [wL_all g.let_, wL_letr, g.last]
  have : (wL w).length = tri m := by unfold wL; rw [List.length_map]; exact g.len
  simp [this]
theorem wL_cls (w : List Nat) (η : Sto) : ∀ x ∈ wL w, ∃ c, clsD x η c := fun x hx => by
  obtain ⟨a, _, rfl⟩ := List.mem_map.mp hx
  exact ⟨"int", rfl⟩
theorem tri_le {m : Nat} (h : m ≤ 9) : tri m ≤ 36 := by
  unfold tri
  have h1 : m * (m - 1) ≤ 9 * 8 := Nat.mul_le_mul h (by omega)
  omega
theorem check_word {m : Nat} {w : List Nat} (h1 : 1 ≤ m) (h9 : m ≤ 9) (g : GW m w) (h : Q .non η) : CC (n + 5) (S "check_word") [.int (m : Int), wD w] η Q := by
  refine u_check_word ?_
  simp only [o_check_word, rE_var, rE_int, rE_str, rE_bl, rE_non, rE_glo, rE_bin, rE_neg, rE_cmp, rE_chn, rE_and, rE_or, rE_not, rE_ife, rE_idx, rE_slc, rE_rev, rE_tup, rE_lst, rE_dic, rE_call, rE_callk, rE_isI, rE_blt, rE_rng, rE_mth, rE_lc, rT_and, rT_or, rT_not, rT_cmp, rT_chn, rT_bl, rT_var, rT_call, rT_isI, rT_blt, rA_nil, rA_cons, rA_star, rTs_nil, rTs_one, rO_no, rO_yes, rI_of, rI_rng, rI_enm, rI_ez, rI_zip, rG_name, rG_tup, rG_sub, rGs_nil, rGs_cons, rS_asg, rS_par, rS_ex, rS_ret, rS_retN, rS_ife, rS_for, rS_whl, rS_never, rS_pass, rS_brk, rS_cont, rSs_nil, rSs_cons, o_add_i, o_sub_i, o_mul_i, o_fdiv_i, o_mod_i, o_pow_i, o_add_t, o_add_s, o_add_r, c_lt_i, c_le_i, c_gt_i, c_ge_i, i_tup, i_rl, i_ref, s_tup, s_rl, s_ref, r_tup, q_tup, q_rl, q_ref, l_rl, l_ref, t_append, t_extend, t_pop, m_append, m_extend, m_pop, st_ref, it_tup, it_rl, it_ref, rg_1, rg_2, z_2, z_3, dw_nil, dw_cons, b_abs, b_int, b_intb, b_stri, b_repr, b_lent, b_lenr, b_lenl, b_tuple, b_list, b_all, b_any, b_sum, b_max, b_min, b_sorted, List.getElem?_cons_zero, List.getElem?_cons_succ, List.set_cons_zero, List.set_cons_succ, ex_some, ex_bl, ex_int, Bool.false_eq_true, if_false, if_true, Tgs.len, DL.Tgs.len]
  refine is_word_of_tup h1 h9 (wL_cls w η) (by have := tri_le h9; unfold wL; rw [List.length_map, g.len]; omega) ⟨_, rfl, ?_⟩
  rw [g.isW]
  simp only [Bool.not_true, Bool.false_eq_true, if_false]
  exact nx_of h
theorem drawn {m : Nat} {w : List Nat} (h1 : 1 ≤ m) (h9 : m ≤ 9) (g : GW m w) (h : Q (.tup ((rowsF (rg m) w).map tI)) η) : CC (n + 6) (S "drawn") [.int (m : Int), wD w] η Q := by
  refine u_drawn ?_
  simp only [o_drawn, rE_var, rE_int, rE_str, rE_bl, rE_non, rE_glo, rE_bin, rE_neg, rE_cmp, rE_chn, rE_and, rE_or, rE_not, rE_ife, rE_idx, rE_slc, rE_rev, rE_tup, rE_lst, rE_dic, rE_call, rE_callk, rE_isI, rE_blt, rE_rng, rE_mth, rE_lc, rT_and, rT_or, rT_not, rT_cmp, rT_chn, rT_bl, rT_var, rT_call, rT_isI, rT_blt, rA_nil, rA_cons, rA_star, rTs_nil, rTs_one, rO_no, rO_yes, rI_of, rI_rng, rI_enm, rI_ez, rI_zip, rG_name, rG_tup, rG_sub, rGs_nil, rGs_cons, rS_asg, rS_par, rS_ex, rS_ret, rS_retN, rS_ife, rS_for, rS_whl, rS_never, rS_pass, rS_brk, rS_cont, rSs_nil, rSs_cons, o_add_i, o_sub_i, o_mul_i, o_fdiv_i, o_mod_i, o_pow_i, o_add_t, o_add_s, o_add_r, c_lt_i, c_le_i, c_gt_i, c_ge_i, i_tup, i_rl, i_ref, s_tup, s_rl, s_ref, r_tup, q_tup, q_rl, q_ref, l_rl, l_ref, t_append, t_extend, t_pop, m_append, m_extend, m_pop, st_ref, it_tup, it_rl, it_ref, rg_1, rg_2, z_2, z_3, dw_nil, dw_cons, b_abs, b_int, b_intb, b_stri, b_repr, b_lent, b_lenr, b_lenl, b_tuple, b_list, b_all, b_any, b_sum, b_max, b_min, b_sorted, List.getElem?_cons_zero, List.getElem?_cons_succ, List.set_cons_zero, List.set_cons_succ, ex_some, ex_bl, ex_int, Bool.false_eq_true, if_false, if_true, Tgs.len, DL.Tgs.len]
  refine ⟨_, gg9, check_many (by omega) (by omega) ?_⟩
  refine check_word h1 h9 g ?_
  have := tri_le h9
  refine rows_by (by omega) g.let_ (by rw [g.len]; omega) fun q hq => ?_
  simp only [rE_var, rE_int, rE_str, rE_bl, rE_non, rE_glo, rE_bin, rE_neg, rE_cmp, rE_chn, rE_and, rE_or, rE_not, rE_ife, rE_idx, rE_slc, rE_rev, rE_tup, rE_lst, rE_dic, rE_call, rE_callk, rE_isI, rE_blt, rE_rng, rE_mth, rE_lc, rT_and, rT_or, rT_not, rT_cmp, rT_chn, rT_bl, rT_var, rT_call, rT_isI, rT_blt, rA_nil, rA_cons, rA_star, rTs_nil, rTs_one, rO_no, rO_yes, rI_of, rI_rng, rI_enm, rI_ez, rI_zip, rG_name, rG_tup, rG_sub, rGs_nil, rGs_cons, rS_asg, rS_par, rS_ex, rS_ret, rS_retN, rS_ife, rS_for, rS_whl, rS_never, rS_pass, rS_brk, rS_cont, rSs_nil, rSs_cons, o_add_i, o_sub_i, o_mul_i, o_fdiv_i, o_mod_i, o_pow_i, o_add_t, o_add_s, o_add_r, c_lt_i, c_le_i, c_gt_i, c_ge_i, i_tup, i_rl, i_ref, s_tup, s_rl, s_ref, r_tup, q_tup, q_rl, q_ref, l_rl, l_ref, t_append, t_extend, t_pop, m_append, m_extend, m_pop, st_ref, it_tup, it_rl, it_ref, rg_1, rg_2, z_2, z_3, dw_nil, dw_cons, b_abs, b_int, b_intb, b_stri, b_repr, b_lent, b_lenr, b_lenl, b_tuple, b_list, b_all, b_any, b_sum, b_max, b_min, b_sorted, List.getElem?_cons_zero, List.getElem?_cons_succ, List.set_cons_zero, List.set_cons_succ, ex_some, ex_bl, ex_int, Bool.false_eq_true, if_false, if_true, Tgs.len, DL.Tgs.len]
  exact ⟨_, put_same, η, sub_new hq, ret_of h⟩
/-! ### the law's rows -/
def RA (p : Addr) (η : Sto) (rs : List D) (rows : List (List Int)) : Prop := rs.length = rows.length ∧ ∀ (i : Nat) (r : D) (row : List Int), rs[i]? = some r → rows[i]? = some row → ∃ a : Addr, r = D.ref a ∧ a ≠ p ∧ η a = some (.lst (row.map .int))
theorem RA.snoc {p q : Addr} {η η' : Sto} {rs : List D} {rows : List (List Int)} {row : List Int} (h : RA p η rs rows) (hk : ∀ a o, a ≠ p → η a = some o → η' a = some o) (hq : q ≠ p) (hn : η' q = some (.lst (row.map .int))) : RA p η' (rs ++ [.ref q]) (rows ++ [row]) := by
  refine ⟨by rw [List.length_append, List.length_append, h.1]; rfl, fun i r row' e1 e2 => ?_⟩
  by_cases hi : i < rs.length
  · rw [List.getElem?_append_left hi] at e1
    rw [List.getElem?_append_left (by rw [← h.1]; exact hi)] at e2
    obtain ⟨a, k1, k2, k3⟩ := h.2 i r row' e1 e2
    exact ⟨a, k1, k2, hk a _ k2 k3⟩
  · rw [List.getElem?_append_right (by omega)] at e1
    rw [List.getElem?_append_right (by rw [← h.1]; omega)] at e2
    rw [h.1] at e1
    cases hz : i - rows.length with
    | zero =>
      rw [hz] at e1 e2
      cases e1; cases e2
      exact ⟨q, rfl, hq, hn⟩
    | succ k => rw [hz] at e1; cases e1
def tupOf (η : Sto) : D → Option D
  | .ref a => match η a with
    | some (.lst xs) => some (.tup xs)
    | _ => none
  | _ => none
theorem RA.tups {p : Addr} {η : Sto} : ∀ {rs : List D} {rows : List (List Int)}, RA p η rs rows → rs.filterMap (tupOf η) = rows.map tI
  | [], [], _ => rfl
  | [], _ :: _, h => by simp [RA] at h
  | _ :: _, [], h => by simp [RA] at h
  | r :: rs, row :: rows, h => by
    obtain ⟨a, k1, k2, k3⟩ := h.2 0 r row rfl rfl
    have t : RA p η rs rows := ⟨by simpa using h.1, fun i r' row' e1 e2 => h.2 (i + 1) r' row' (by simpa using e1) (by simpa using e2)⟩
    subst k1
    rw [List.filterMap_cons]
    have e : tupOf η (.ref a) = some (.tup (row.map .int)) := by simp only [tupOf, k3]
    rw [e, RA.tups t]
    rfl
theorem ex_set (r : List Int) (i : Nat) (a b : Int) (ha : r[i]? = some a) (hb : r[i + 1]? = some b) : (r.set i b).set (i + 1) a = ex r i := by
  rw [ex_of ha hb]
  have h1 := (List.getElem?_eq_some_iff.mp hb).1
  apply List.ext_getElem?
  intro j
  rw [List.getElem?_set, List.getElem?_set]
  by_cases c1 : i + 1 = j
  · subst c1
    simp only [if_true, List.length_set]
    rw [if_pos h1, List.getElem?_append_right (by rw [List.length_take]; omega), List.length_take, Nat.min_eq_left (by omega)]
    have : i + 1 - i = 1 := by omega
    rw [this]; rfl
  · rw [if_neg c1]
    by_cases c2 : i = j
    · subst c2
      simp only [if_true]
      rw [if_pos (by omega), List.getElem?_append_right (by rw [List.length_take]; omega), List.length_take, Nat.min_eq_left (by omega), Nat.sub_self]; rfl
    · rw [if_neg c2]
      by_cases c3 : j < i
      · rw [List.getElem?_append_left (by rw [List.length_take]; omega), List.getElem?_take_of_lt c3]
      · rw [List.getElem?_append_right (by rw [List.length_take]; omega), List.length_take, Nat.min_eq_left (by omega)]
        obtain ⟨k, rfl⟩ : ∃ k, j = i + 2 + k := ⟨j - i - 2, by omega⟩
        have : i + 2 + k - i = k + 2 := by omega
        rw [this]
        show r[i + 2 + k]? = (r.drop (i + 2))[k]?
        rw [List.getElem?_drop]
theorem law_rows {m : Nat} {w : List Nat} (hm : m ≤ 1000) (hw : ∀ a ∈ w, a + 1 < m) (hl : w.length ≤ 1000000) (h : ∀ q, η q = none → Q (.ref q) (put η q (.lst ((rowsF (rg m) w).map tI)))) : CC (n + 1) (S "_law_rows") [.int (m : Int), wD w] η Q := by
  refine u__law_rows ?_
  have hw' : wD w = .tup (wL w) := rfl
  simp only [o__law_rows, rE_var, rE_int, rE_str, rE_bl, rE_non, rE_glo, rE_bin, rE_neg, rE_cmp, rE_chn, rE_and, rE_or, rE_not, rE_ife, rE_idx, rE_slc, rE_rev, rE_tup, rE_lst, rE_dic, rE_call, rE_callk, rE_isI, rE_blt, rE_rng, rE_mth, rE_lc, rT_and, rT_or, rT_not, rT_cmp, rT_chn, rT_bl, rT_var, rT_call, rT_isI, rT_blt, rA_nil, rA_cons, rA_star, rTs_nil, rTs_one, rO_no, rO_yes, rI_of, rI_rng, rI_enm, rI_ez, rI_zip, rG_name, rG_tup, rG_sub, rGs_nil, rGs_cons, rS_asg, rS_par, rS_ex, rS_ret, rS_retN, rS_ife, rS_for, rS_whl, rS_never, rS_pass, rS_brk, rS_cont, rSs_nil, rSs_cons, o_add_i, o_sub_i, o_mul_i, o_fdiv_i, o_mod_i, o_pow_i, o_add_t, o_add_s, o_add_r, c_lt_i, c_le_i, c_gt_i, c_ge_i, i_tup, i_rl, i_ref, s_tup, s_rl, s_ref, r_tup, q_tup, q_rl, q_ref, l_rl, l_ref, t_append, t_extend, t_pop, m_append, m_extend, m_pop, st_ref, it_tup, it_rl, it_ref, rg_1, rg_2, z_2, z_3, dw_nil, dw_cons, b_abs, b_int, b_intb, b_stri, b_repr, b_lent, b_lenr, b_lenl, b_tuple, b_list, b_all, b_any, b_sum, b_max, b_min, b_sorted, List.getElem?_cons_zero, List.getElem?_cons_succ, List.set_cons_zero, List.set_cons_succ, ex_some, ex_bl, ex_int, Bool.false_eq_true, if_false, if_true, Tgs.len, DL.Tgs.len]
  refine ⟨inR_nat (by omega), size_of (by omega), fun r0 hr0 => ⟨size_of (by simp), fun p hp => ?_⟩⟩
  rw [rgD_rg, hw']
  simp only [rE_var, rE_int, rE_str, rE_bl, rE_non, rE_glo, rE_bin, rE_neg, rE_cmp, rE_chn, rE_and, rE_or, rE_not, rE_ife, rE_idx, rE_slc, rE_rev, rE_tup, rE_lst, rE_dic, rE_call, rE_callk, rE_isI, rE_blt, rE_rng, rE_mth, rE_lc, rT_and, rT_or, rT_not, rT_cmp, rT_chn, rT_bl, rT_var, rT_call, rT_isI, rT_blt, rA_nil, rA_cons, rA_star, rTs_nil, rTs_one, rO_no, rO_yes, rI_of, rI_rng, rI_enm, rI_ez, rI_zip, rG_name, rG_tup, rG_sub, rGs_nil, rGs_cons, rS_asg, rS_par, rS_ex, rS_ret, rS_retN, rS_ife, rS_for, rS_whl, rS_never, rS_pass, rS_brk, rS_cont, rSs_nil, rSs_cons, o_add_i, o_sub_i, o_mul_i, o_fdiv_i, o_mod_i, o_pow_i, o_add_t, o_add_s, o_add_r, c_lt_i, c_le_i, c_gt_i, c_ge_i, i_tup, i_rl, i_ref, s_tup, s_rl, s_ref, r_tup, q_tup, q_rl, q_ref, l_rl, l_ref, t_append, t_extend, t_pop, m_append, m_extend, m_pop, st_ref, it_tup, it_rl, it_ref, rg_1, rg_2, z_2, z_3, dw_nil, dw_cons, b_abs, b_int, b_intb, b_stri, b_repr, b_lent, b_lenr, b_lenl, b_tuple, b_list, b_all, b_any, b_sum, b_max, b_min, b_sorted, List.getElem?_cons_zero, List.getElem?_cons_succ, List.set_cons_zero, List.set_cons_succ, ex_some, ex_bl, ex_int, Bool.false_eq_true, if_false, if_true, Tgs.len, DL.Tgs.len]
  have np : r0 ≠ p := fun e => by rw [← e, put_same] at hp; cases hp
  have hp0 : η p = none := by rw [put_ne (Ne.symm np)] at hp; exact hp
  refine for_of (rdC_mono _) (fun i δ η' => ∃ rs d1 d2, RA p η' rs (rowsF (rg m) (w.take i)) ∧ η' p = some (.lst rs) ∧ Sub η η' ∧ δ = [some (.int (m : Int)), some (wD w), some (.ref p), d1, d2]) (fun i x δ η' hx hj => ?_) (fun δ η' hj => ?_) ?_
  · obtain ⟨rs, d1, d2, ra, ep, sb, rfl⟩ := hj
    unfold wL at hx
    rw [List.getElem?_map] at hx
    cases hwi : w[i]? with
    | none => rw [hwi] at hx; cases hx
    | some a =>
      rw [hwi] at hx
      cases hx
      have ha : a + 1 < m := hw a (List.mem_of_getElem? hwi)
      have hi : i < w.length := (List.getElem?_eq_some_iff.mp hwi).1
      obtain ⟨l, el⟩ := rowsF_last (rg m) (w.take i)
      have lrs : rs.length = l.length + 1 := by rw [ra.1, el]; simp
      obtain ⟨rl, hrl⟩ : ∃ rl, rs[l.length]? = some rl := ⟨rs[l.length], by simp [lrs]⟩
      have e2 : (rowsF (rg m) (w.take i))[l.length]? = some (lastF (rg m) (w.take i)) := by rw [el]; simp
      obtain ⟨ar, rfl, k2, k3⟩ := ra.2 _ _ _ hrl e2
      have ers : rs = rs.take l.length ++ [.ref ar] := by
        have h1 : rs.take (l.length + 1) = rs := List.take_of_length_le (by omega)
        rw [List.take_add_one, hrl] at h1
        simpa using h1.symm
      refine ⟨trivial, ?_⟩
      simp only [rE_var, rE_int, rE_str, rE_bl, rE_non, rE_glo, rE_bin, rE_neg, rE_cmp, rE_chn, rE_and, rE_or, rE_not, rE_ife, rE_idx, rE_slc, rE_rev, rE_tup, rE_lst, rE_dic, rE_call, rE_callk, rE_isI, rE_blt, rE_rng, rE_mth, rE_lc, rT_and, rT_or, rT_not, rT_cmp, rT_chn, rT_bl, rT_var, rT_call, rT_isI, rT_blt, rA_nil, rA_cons, rA_star, rTs_nil, rTs_one, rO_no, rO_yes, rI_of, rI_rng, rI_enm, rI_ez, rI_zip, rG_name, rG_tup, rG_sub, rGs_nil, rGs_cons, rS_asg, rS_par, rS_ex, rS_ret, rS_retN, rS_ife, rS_for, rS_whl, rS_never, rS_pass, rS_brk, rS_cont, rSs_nil, rSs_cons, o_add_i, o_sub_i, o_mul_i, o_fdiv_i, o_mod_i, o_pow_i, o_add_t, o_add_s, o_add_r, c_lt_i, c_le_i, c_gt_i, c_ge_i, i_tup, i_rl, i_ref, s_tup, s_rl, s_ref, r_tup, q_tup, q_rl, q_ref, l_rl, l_ref, t_append, t_extend, t_pop, m_append, m_extend, m_pop, st_ref, it_tup, it_rl, it_ref, rg_1, rg_2, z_2, z_3, dw_nil, dw_cons, b_abs, b_int, b_intb, b_stri, b_repr, b_lent, b_lenr, b_lenl, b_tuple, b_list, b_all, b_any, b_sum, b_max, b_min, b_sorted, List.getElem?_cons_zero, List.getElem?_cons_succ, List.set_cons_zero, List.set_cons_succ, ex_some, ex_bl, ex_int, Bool.false_eq_true, if_false, if_true, Tgs.len, DL.Tgs.len]
      refine ⟨rs, _, ep, by rw [ers]; exact atI_last _ _, ?_⟩
      generalize hrow : lastF (rg m) (w.take i) = row at k3 e2
      have rlen : row.length = m := by rw [← hrow, lastF_len, rg_len]
      obtain ⟨u, hu⟩ : ∃ u, row[a]? = some u := ⟨row[a], by simp⟩
      obtain ⟨v, hv⟩ : ∃ v, row[a + 1]? = some v := ⟨row[a + 1], by simp [rlen, ha]⟩
      have hu' : (row.map D.int)[a]? = some (.int u) := by rw [List.getElem?_map, hu]; rfl
      have hv' : (row.map D.int)[a + 1]? = some (.int v) := by rw [List.getElem?_map, hv]; rfl
      refine ⟨_, k3, fun q hq => ⟨_, Sub.refl _, _, _, put_same, atI_nat hv', _, _, put_same, atI_nat hu', size_of (by simp), _, rfl, rfl, _, _, rfl, ?_⟩⟩
      have nq : q ≠ p := fun e => by rw [e, ep] at hq; cases hq
      refine ⟨_, a, put_same, ixN_nat (by rw [List.length_map, rlen]; omega), _, _, rfl, ?_⟩
      simp only [put_put]
      refine ⟨_, a + 1, put_same, ixN_nat (by rw [List.length_set, List.length_map, rlen]; exact ha), trivial, ?_⟩
      try simp only [put_put]
      have erow : ((row.map D.int).set a (.int v)).set (a + 1) (.int u) = (ex row a).map D.int := by
        rw [← ex_set row a u v hu hv, List.map_set, List.map_set]
      rw [erow]
      have ep2 : put η' q (.lst ((ex row a).map .int)) p = some (.lst rs) := by rw [put_ne (Ne.symm nq)]; exact ep
      refine ⟨⟨_, ep2⟩, rs, ep2, ?_, rs ++ [.ref q], _, _, ?_, put_same, ?_, rfl⟩
      · rw [lrs, sizeLine_eq]
        have : l.length + 1 = (rowsF (rg m) (w.take i)).length := by rw [el]; simp
        rw [this, rowsF_len, List.length_take]
        omega
      · rw [List.take_add_one, hwi, Option.toList_some, rowsF_snoc, hrow]
        refine ra.snoc (fun b o hb e => ?_) nq ?_
        · rw [put_ne hb, put_ne (ne_fresh e hq)]; exact e
        · rw [put_ne nq, put_same]
      · exact Sub.ofput hp0 (Sub.ofput (by
          cases z : η q with
          | none => rfl
          | some o => rw [sb q o z] at hq; cases hq) sb)
  · obtain ⟨rs, d1, d2, ra, ep, sb, rfl⟩ := hj
    refine ⟨trivial, ?_⟩
    simp only [rE_var, rE_int, rE_str, rE_bl, rE_non, rE_glo, rE_bin, rE_neg, rE_cmp, rE_chn, rE_and, rE_or, rE_not, rE_ife, rE_idx, rE_slc, rE_rev, rE_tup, rE_lst, rE_dic, rE_call, rE_callk, rE_isI, rE_blt, rE_rng, rE_mth, rE_lc, rT_and, rT_or, rT_not, rT_cmp, rT_chn, rT_bl, rT_var, rT_call, rT_isI, rT_blt, rA_nil, rA_cons, rA_star, rTs_nil, rTs_one, rO_no, rO_yes, rI_of, rI_rng, rI_enm, rI_ez, rI_zip, rG_name, rG_tup, rG_sub, rGs_nil, rGs_cons, rS_asg, rS_par, rS_ex, rS_ret, rS_retN, rS_ife, rS_for, rS_whl, rS_never, rS_pass, rS_brk, rS_cont, rSs_nil, rSs_cons, o_add_i, o_sub_i, o_mul_i, o_fdiv_i, o_mod_i, o_pow_i, o_add_t, o_add_s, o_add_r, c_lt_i, c_le_i, c_gt_i, c_ge_i, i_tup, i_rl, i_ref, s_tup, s_rl, s_ref, r_tup, q_tup, q_rl, q_ref, l_rl, l_ref, t_append, t_extend, t_pop, m_append, m_extend, m_pop, st_ref, it_tup, it_rl, it_ref, rg_1, rg_2, z_2, z_3, dw_nil, dw_cons, b_abs, b_int, b_intb, b_stri, b_repr, b_lent, b_lenr, b_lenl, b_tuple, b_list, b_all, b_any, b_sum, b_max, b_min, b_sorted, List.getElem?_cons_zero, List.getElem?_cons_succ, List.set_cons_zero, List.set_cons_succ, ex_some, ex_bl, ex_int, Bool.false_eq_true, if_false, if_true, Tgs.len, DL.Tgs.len]
    refine ⟨rs, ep, fun q hq => ?_⟩
    have nq : q ≠ p := fun e => by rw [e, ep] at hq; cases hq
    have hq0 : η q = none := by
      cases z : η q with
      | none => rfl
      | some o => rw [sb q o z] at hq; cases hq
    refine lc_of (rdC_mono _) η' (tupOf η') (fun acc => by rw [put_ne (Ne.symm nq)]; exact ep) (fun x hx acc => ?_) ?_ ?_
    · simp only [rE_var, rE_int, rE_str, rE_bl, rE_non, rE_glo, rE_bin, rE_neg, rE_cmp, rE_chn, rE_and, rE_or, rE_not, rE_ife, rE_idx, rE_slc, rE_rev, rE_tup, rE_lst, rE_dic, rE_call, rE_callk, rE_isI, rE_blt, rE_rng, rE_mth, rE_lc, rT_and, rT_or, rT_not, rT_cmp, rT_chn, rT_bl, rT_var, rT_call, rT_isI, rT_blt, rA_nil, rA_cons, rA_star, rTs_nil, rTs_one, rO_no, rO_yes, rI_of, rI_rng, rI_enm, rI_ez, rI_zip, rG_name, rG_tup, rG_sub, rGs_nil, rGs_cons, rS_asg, rS_par, rS_ex, rS_ret, rS_retN, rS_ife, rS_for, rS_whl, rS_never, rS_pass, rS_brk, rS_cont, rSs_nil, rSs_cons, o_add_i, o_sub_i, o_mul_i, o_fdiv_i, o_mod_i, o_pow_i, o_add_t, o_add_s, o_add_r, c_lt_i, c_le_i, c_gt_i, c_ge_i, i_tup, i_rl, i_ref, s_tup, s_rl, s_ref, r_tup, q_tup, q_rl, q_ref, l_rl, l_ref, t_append, t_extend, t_pop, m_append, m_extend, m_pop, st_ref, it_tup, it_rl, it_ref, rg_1, rg_2, z_2, z_3, dw_nil, dw_cons, b_abs, b_int, b_intb, b_stri, b_repr, b_lent, b_lenr, b_lenl, b_tuple, b_list, b_all, b_any, b_sum, b_max, b_min, b_sorted, List.getElem?_cons_zero, List.getElem?_cons_succ, List.set_cons_zero, List.set_cons_succ, ex_some, ex_bl, ex_int, Bool.false_eq_true, if_false, if_true, Tgs.len, DL.Tgs.len]
      obtain ⟨i, hi⟩ := List.mem_iff_getElem?.mp hx
      have hlt : i < rs.length := (List.getElem?_eq_some_iff.mp hi).1
      obtain ⟨row, hrow⟩ : ∃ row, (rowsF (rg m) (w.take (wL w).length))[i]? = some row := ⟨_, List.getElem?_eq_getElem (by rw [← ra.1]; exact hlt)⟩
      obtain ⟨b, rfl, k2, k3⟩ := ra.2 i x row hi hrow
      have nb : b ≠ q := ne_fresh k3 hq
      refine ⟨trivial, trivial, .inr ⟨trivial, _, by rw [q_ref, put_ne nb]; exact k3, _, Sub.refl _, ?_, rfl⟩⟩
      simp only [tupOf, k3]
    · rw [ra.1, rowsF_len, List.length_take, sizeLine_eq]; omega
    · rw [ra.tups]
      have e : w.take (wL w).length = w := by unfold wL; rw [List.length_map, List.take_length]
      rw [e]
      exact ret_sub (sb.put q _) (h q hq0)
  · refine ⟨[.ref r0], none, none, ⟨rfl, fun i r row e1 e2 => ?_⟩, put_same, Sub.ofput hp0 (sub_new hr0), rfl⟩
    cases i with
    | zero =>
      cases e1
      cases e2
      exact ⟨r0, rfl, np, by rw [put_ne np, put_same]⟩
    | succ k => cases e1
end
end K43

set_option Elab.async false
set_option linter.all false
set_option maxRecDepth 100000
set_option maxHeartbeats 4000000
/-! K43D: the law's is-word; steps, the program's and the law's. -/
namespace K43
open PySem PySem.Spec PyProof.Rows L2 DL
section
variable {n : Nat} {η : Sto} {Q : DK}
theorem tri2 {m : Nat} (h : m ≤ 9) : m * (m - 1) = 2 * tri m := by
  have q : ∀ k : Fin 10, k.val * (k.val - 1) = 2 * tri k.val := by decide
  exact q ⟨m, by omega⟩
theorem law_is_word_not {v : D} {m : Int} {c : String} (hc : clsD v η c) (hn : isCls c "tuple" = false) (h : Q (.bl false) η) : CC (n + 2) (S "_law_is_word") [.int m, v] η Q := by
  refine u__law_is_word ?_
  simp only [o__law_is_word, rE_var, rE_int, rE_str, rE_bl, rE_non, rE_glo, rE_bin, rE_neg, rE_cmp, rE_chn, rE_and, rE_or, rE_not, rE_ife, rE_idx, rE_slc, rE_rev, rE_tup, rE_lst, rE_dic, rE_call, rE_callk, rE_isI, rE_blt, rE_rng, rE_mth, rE_lc, rT_and, rT_or, rT_not, rT_cmp, rT_chn, rT_bl, rT_var, rT_call, rT_isI, rT_blt, rA_nil, rA_cons, rA_star, rTs_nil, rTs_one, rO_no, rO_yes, rI_of, rI_rng, rI_enm, rI_ez, rI_zip, rG_name, rG_tup, rG_sub, rGs_nil, rGs_cons, rS_asg, rS_par, rS_ex, rS_ret, rS_retN, rS_ife, rS_for, rS_whl, rS_never, rS_pass, rS_brk, rS_cont, rSs_nil, rSs_cons, o_add_i, o_sub_i, o_mul_i, o_fdiv_i, o_mod_i, o_pow_i, o_add_t, o_add_s, o_add_r, c_lt_i, c_le_i, c_gt_i, c_ge_i, i_tup, i_rl, i_ref, s_tup, s_rl, s_ref, r_tup, q_tup, q_rl, q_ref, l_rl, l_ref, t_append, t_extend, t_pop, m_append, m_extend, m_pop, st_ref, it_tup, it_rl, it_ref, rg_1, rg_2, z_2, z_3, dw_nil, dw_cons, b_abs, b_int, b_intb, b_stri, b_repr, b_lent, b_lenr, b_lenl, b_tuple, b_list, b_all, b_any, b_sum, b_max, b_min, b_sorted, List.getElem?_cons_zero, List.getElem?_cons_succ, List.set_cons_zero, List.set_cons_succ, ex_some, ex_bl, ex_int, Bool.false_eq_true, if_false, if_true, Tgs.len, DL.Tgs.len]
  refine ⟨c, hc, ?_⟩
  simp only [hn, Bool.not_false, if_true]
  exact ret_of h
theorem law_is_word_tup {m : Nat} {xs : List D} (h1 : 1 ≤ m) (h9 : m ≤ 9) (hx : ∀ x ∈ xs, ∃ c, clsD x η c) (hl : xs.length ≤ 100000) (h : Q (.bl (isW m xs)) η) : CC (n + 2) (S "_law_is_word") [.int (m : Int), .tup xs] η Q := by
  refine u__law_is_word ?_
  simp only [o__law_is_word, rE_var, rE_int, rE_str, rE_bl, rE_non, rE_glo, rE_bin, rE_neg, rE_cmp, rE_chn, rE_and, rE_or, rE_not, rE_ife, rE_idx, rE_slc, rE_rev, rE_tup, rE_lst, rE_dic, rE_call, rE_callk, rE_isI, rE_blt, rE_rng, rE_mth, rE_lc, rT_and, rT_or, rT_not, rT_cmp, rT_chn, rT_bl, rT_var, rT_call, rT_isI, rT_blt, rA_nil, rA_cons, rA_star, rTs_nil, rTs_one, rO_no, rO_yes, rI_of, rI_rng, rI_enm, rI_ez, rI_zip, rG_name, rG_tup, rG_sub, rGs_nil, rGs_cons, rS_asg, rS_par, rS_ex, rS_ret, rS_retN, rS_ife, rS_for, rS_whl, rS_never, rS_pass, rS_brk, rS_cont, rSs_nil, rSs_cons, o_add_i, o_sub_i, o_mul_i, o_fdiv_i, o_mod_i, o_pow_i, o_add_t, o_add_s, o_add_r, c_lt_i, c_le_i, c_gt_i, c_ge_i, i_tup, i_rl, i_ref, s_tup, s_rl, s_ref, r_tup, q_tup, q_rl, q_ref, l_rl, l_ref, t_append, t_extend, t_pop, m_append, m_extend, m_pop, st_ref, it_tup, it_rl, it_ref, rg_1, rg_2, z_2, z_3, dw_nil, dw_cons, b_abs, b_int, b_intb, b_stri, b_repr, b_lent, b_lenr, b_lenl, b_tuple, b_list, b_all, b_any, b_sum, b_max, b_min, b_sorted, List.getElem?_cons_zero, List.getElem?_cons_succ, List.set_cons_zero, List.set_cons_succ, ex_some, ex_bl, ex_int, Bool.false_eq_true, if_false, if_true, Tgs.len, DL.Tgs.len]
  refine ⟨"tuple", rfl, ?_⟩
  simp only [show isCls "tuple" "tuple" = true by decide, Bool.not_true, Bool.false_eq_true, if_false]
  refine ⟨xs, rfl, η, Sub.refl η, mul_l (by decide), mul_l (by omega), cne_i ?_⟩
  have t2 : ((m : Int) * ((m : Int) - 1)) = 2 * ((tri m : Nat) : Int) := by
    have q := tri2 h9
    have e : ((m : Int) - 1) = ((m - 1 : Nat) : Int) := by omega
    rw [e, ← Int.natCast_mul, q]
    omega
  rw [t2]
  by_cases hlen : xs.length = tri m
  case neg =>
    have e : (!decide (2 * (xs.length : Int) = 2 * ((tri m : Nat) : Int))) = true := by simp; omega
    rw [e]
    simp only [if_true]
    refine ret_of ?_
    unfold isW at h
    rw [decide_eq_false hlen, Bool.false_and] at h
    exact h
  case pos =>
    have e : (!decide (2 * (xs.length : Int) = 2 * ((tri m : Nat) : Int))) = false := by simp; omega
    rw [e]
    simp only [rE_var, rE_int, rE_str, rE_bl, rE_non, rE_glo, rE_bin, rE_neg, rE_cmp, rE_chn, rE_and, rE_or, rE_not, rE_ife, rE_idx, rE_slc, rE_rev, rE_tup, rE_lst, rE_dic, rE_call, rE_callk, rE_isI, rE_blt, rE_rng, rE_mth, rE_lc, rT_and, rT_or, rT_not, rT_cmp, rT_chn, rT_bl, rT_var, rT_call, rT_isI, rT_blt, rA_nil, rA_cons, rA_star, rTs_nil, rTs_one, rO_no, rO_yes, rI_of, rI_rng, rI_enm, rI_ez, rI_zip, rG_name, rG_tup, rG_sub, rGs_nil, rGs_cons, rS_asg, rS_par, rS_ex, rS_ret, rS_retN, rS_ife, rS_for, rS_whl, rS_never, rS_pass, rS_brk, rS_cont, rSs_nil, rSs_cons, o_add_i, o_sub_i, o_mul_i, o_fdiv_i, o_mod_i, o_pow_i, o_add_t, o_add_s, o_add_r, c_lt_i, c_le_i, c_gt_i, c_ge_i, i_tup, i_rl, i_ref, s_tup, s_rl, s_ref, r_tup, q_tup, q_rl, q_ref, l_rl, l_ref, t_append, t_extend, t_pop, m_append, m_extend, m_pop, st_ref, it_tup, it_rl, it_ref, rg_1, rg_2, z_2, z_3, dw_nil, dw_cons, b_abs, b_int, b_intb, b_stri, b_repr, b_lent, b_lenr, b_lenl, b_tuple, b_list, b_all, b_any, b_sum, b_max, b_min, b_sorted, List.getElem?_cons_zero, List.getElem?_cons_succ, List.set_cons_zero, List.set_cons_succ, ex_some, ex_bl, ex_int, Bool.false_eq_true, if_false, if_true, Tgs.len, DL.Tgs.len]
    intro p hp
    refine lc_of (rdC_mono _) η (fun x => some (.bl (okX m x))) (fun _ => trivial) (fun x hxm acc => ?_) (by rw [sizeLine_eq]; omega) ?_
    · obtain ⟨c, hc⟩ := hx x hxm
      simp only [rE_var, rE_int, rE_str, rE_bl, rE_non, rE_glo, rE_bin, rE_neg, rE_cmp, rE_chn, rE_and, rE_or, rE_not, rE_ife, rE_idx, rE_slc, rE_rev, rE_tup, rE_lst, rE_dic, rE_call, rE_callk, rE_isI, rE_blt, rE_rng, rE_mth, rE_lc, rT_and, rT_or, rT_not, rT_cmp, rT_chn, rT_bl, rT_var, rT_call, rT_isI, rT_blt, rA_nil, rA_cons, rA_star, rTs_nil, rTs_one, rO_no, rO_yes, rI_of, rI_rng, rI_enm, rI_ez, rI_zip, rG_name, rG_tup, rG_sub, rGs_nil, rGs_cons, rS_asg, rS_par, rS_ex, rS_ret, rS_retN, rS_ife, rS_for, rS_whl, rS_never, rS_pass, rS_brk, rS_cont, rSs_nil, rSs_cons, o_add_i, o_sub_i, o_mul_i, o_fdiv_i, o_mod_i, o_pow_i, o_add_t, o_add_s, o_add_r, c_lt_i, c_le_i, c_gt_i, c_ge_i, i_tup, i_rl, i_ref, s_tup, s_rl, s_ref, r_tup, q_tup, q_rl, q_ref, l_rl, l_ref, t_append, t_extend, t_pop, m_append, m_extend, m_pop, st_ref, it_tup, it_rl, it_ref, rg_1, rg_2, z_2, z_3, dw_nil, dw_cons, b_abs, b_int, b_intb, b_stri, b_repr, b_lent, b_lenr, b_lenl, b_tuple, b_list, b_all, b_any, b_sum, b_max, b_min, b_sorted, List.getElem?_cons_zero, List.getElem?_cons_succ, List.set_cons_zero, List.set_cons_succ, ex_some, ex_bl, ex_int, Bool.false_eq_true, if_false, if_true, Tgs.len, DL.Tgs.len]
      refine ⟨trivial, trivial, .inr ⟨trivial, ?_⟩⟩
      by_cases hi : ∃ i, x = .int i
      · obtain ⟨i, rfl⟩ := hi
        refine ⟨"int", rfl, ?_⟩
        simp only [show isCls "int" "int" = true by decide, if_true]
        refine ⟨"int", rfl, ?_⟩
        simp only [show isCls "int" "bool" = false by decide, Bool.not_false, if_true, rE_var, rE_int, rE_str, rE_bl, rE_non, rE_glo, rE_bin, rE_neg, rE_cmp, rE_chn, rE_and, rE_or, rE_not, rE_ife, rE_idx, rE_slc, rE_rev, rE_tup, rE_lst, rE_dic, rE_call, rE_callk, rE_isI, rE_blt, rE_rng, rE_mth, rE_lc, rT_and, rT_or, rT_not, rT_cmp, rT_chn, rT_bl, rT_var, rT_call, rT_isI, rT_blt, rA_nil, rA_cons, rA_star, rTs_nil, rTs_one, rO_no, rO_yes, rI_of, rI_rng, rI_enm, rI_ez, rI_zip, rG_name, rG_tup, rG_sub, rGs_nil, rGs_cons, rS_asg, rS_par, rS_ex, rS_ret, rS_retN, rS_ife, rS_for, rS_whl, rS_never, rS_pass, rS_brk, rS_cont, rSs_nil, rSs_cons, o_add_i, o_sub_i, o_mul_i, o_fdiv_i, o_mod_i, o_pow_i, o_add_t, o_add_s, o_add_r, c_lt_i, c_le_i, c_gt_i, c_ge_i, i_tup, i_rl, i_ref, s_tup, s_rl, s_ref, r_tup, q_tup, q_rl, q_ref, l_rl, l_ref, t_append, t_extend, t_pop, m_append, m_extend, m_pop, st_ref, it_tup, it_rl, it_ref, rg_1, rg_2, z_2, z_3, dw_nil, dw_cons, b_abs, b_int, b_intb, b_stri, b_repr, b_lent, b_lenr, b_lenl, b_tuple, b_list, b_all, b_any, b_sum, b_max, b_min, b_sorted, List.getElem?_cons_zero, List.getElem?_cons_succ, List.set_cons_zero, List.set_cons_succ, ex_some, ex_bl, ex_int, Bool.false_eq_true, if_false, if_true, Tgs.len, DL.Tgs.len]
        have e5 : okX m (.int i) = decide (0 ≤ i ∧ i ≤ (m : Int) - 2) := rfl
        rw [e5]
        by_cases k1 : 0 ≤ i
        · simp only [k1, decide_true, if_true, true_and, and_true]
          by_cases k2 : i < (m : Int) - 1
          · have k3 : i ≤ (m : Int) - 2 := by omega
            simp [k2, k3]
          · have k3 : ¬ i ≤ (m : Int) - 2 := by omega
            simp [k2, k3]
        · simp [k1]
      · have hok : okX m x = false := by cases x <;> first | rfl | exact absurd ⟨_, rfl⟩ hi
        rw [hok]
        cases x with
        | int i => exact absurd ⟨i, rfl⟩ hi
        | non => exact ⟨_, rfl, by simp only [show isCls "NoneType" "int" = false by decide]; simp⟩
        | bl b =>
          refine ⟨_, rfl, ?_⟩
          simp only [show isCls "bool" "int" = true by decide, if_true]
          exact ⟨_, rfl, by simp only [show isCls "bool" "bool" = true by decide]; simp⟩
        | str b => exact ⟨_, rfl, by simp only [show isCls "str" "int" = false by decide]; simp⟩
        | tup b => exact ⟨_, rfl, by simp only [show isCls "tuple" "int" = false by decide]; simp⟩
        | rl b => exact ⟨_, rfl, by simp only [show isCls "list" "int" = false by decide]; simp⟩
        | ref a =>
          rcases hc with ⟨ys, e, rfl⟩ | ⟨kvs, e, rfl⟩
          · exact ⟨"list", .inl ⟨ys, by rw [put_ne (ne_fresh e hp)]; exact e, rfl⟩, by simp only [show isCls "list" "int" = false by decide]; simp⟩
          · exact ⟨"dict", .inr ⟨kvs, by rw [put_ne (ne_fresh e hp)]; exact e, rfl⟩, by simp only [show isCls "dict" "int" = false by decide]; simp⟩
    · rw [filterMap_map]
      have e2 : xs.map (fun x => D.bl (okX m x)) = (xs.map (okX m)).map .bl := by rw [List.map_map]; rfl
      rw [e2]
      refine all_bl (sub_new hp) ?_
      have e3 : (xs.map (okX m)).all id = xs.all (okX m) := by rw [List.all_map]; rfl
      rw [e3]
      by_cases hall : xs.all (okX m) = true
      case neg =>
        have e4 : xs.all (okX m) = false := by simpa using hall
        rw [e4]
        simp only [Bool.not_false, if_true]
        refine ret_of ?_
        unfold isW at h
        rw [e4, Bool.false_and, Bool.and_false] at h
        exact h
      case pos =>
        obtain ⟨w1, w2⟩ := word_of hall
        rw [hall]
        simp only [Bool.not_true, rE_var, rE_int, rE_str, rE_bl, rE_non, rE_glo, rE_bin, rE_neg, rE_cmp, rE_chn, rE_and, rE_or, rE_not, rE_ife, rE_idx, rE_slc, rE_rev, rE_tup, rE_lst, rE_dic, rE_call, rE_callk, rE_isI, rE_blt, rE_rng, rE_mth, rE_lc, rT_and, rT_or, rT_not, rT_cmp, rT_chn, rT_bl, rT_var, rT_call, rT_isI, rT_blt, rA_nil, rA_cons, rA_star, rTs_nil, rTs_one, rO_no, rO_yes, rI_of, rI_rng, rI_enm, rI_ez, rI_zip, rG_name, rG_tup, rG_sub, rGs_nil, rGs_cons, rS_asg, rS_par, rS_ex, rS_ret, rS_retN, rS_ife, rS_for, rS_whl, rS_never, rS_pass, rS_brk, rS_cont, rSs_nil, rSs_cons, o_add_i, o_sub_i, o_mul_i, o_fdiv_i, o_mod_i, o_pow_i, o_add_t, o_add_s, o_add_r, c_lt_i, c_le_i, c_gt_i, c_ge_i, i_tup, i_rl, i_ref, s_tup, s_rl, s_ref, r_tup, q_tup, q_rl, q_ref, l_rl, l_ref, t_append, t_extend, t_pop, m_append, m_extend, m_pop, st_ref, it_tup, it_rl, it_ref, rg_1, rg_2, z_2, z_3, dw_nil, dw_cons, b_abs, b_int, b_intb, b_stri, b_repr, b_lent, b_lenr, b_lenl, b_tuple, b_list, b_all, b_any, b_sum, b_max, b_min, b_sorted, List.getElem?_cons_zero, List.getElem?_cons_succ, List.set_cons_zero, List.set_cons_succ, ex_some, ex_bl, ex_int, Bool.false_eq_true, if_false, if_true, Tgs.len, DL.Tgs.len]
        rw [w1]
        refine law_rows (by omega) w2 (by rw [List.length_map]; omega) fun q hq => ?_
        obtain ⟨l, el⟩ := rowsF_last (rg m) (xs.map letr)
        have eL : (rowsF (rg m) (xs.map letr)).map tI = l.map tI ++ [tI (lastF (rg m) (xs.map letr))] := by rw [el]; simp
        simp only [rE_var, rE_int, rE_str, rE_bl, rE_non, rE_glo, rE_bin, rE_neg, rE_cmp, rE_chn, rE_and, rE_or, rE_not, rE_ife, rE_idx, rE_slc, rE_rev, rE_tup, rE_lst, rE_dic, rE_call, rE_callk, rE_isI, rE_blt, rE_rng, rE_mth, rE_lc, rT_and, rT_or, rT_not, rT_cmp, rT_chn, rT_bl, rT_var, rT_call, rT_isI, rT_blt, rA_nil, rA_cons, rA_star, rTs_nil, rTs_one, rO_no, rO_yes, rI_of, rI_rng, rI_enm, rI_ez, rI_zip, rG_name, rG_tup, rG_sub, rGs_nil, rGs_cons, rS_asg, rS_par, rS_ex, rS_ret, rS_retN, rS_ife, rS_for, rS_whl, rS_never, rS_pass, rS_brk, rS_cont, rSs_nil, rSs_cons, o_add_i, o_sub_i, o_mul_i, o_fdiv_i, o_mod_i, o_pow_i, o_add_t, o_add_s, o_add_r, c_lt_i, c_le_i, c_gt_i, c_ge_i, i_tup, i_rl, i_ref, s_tup, s_rl, s_ref, r_tup, q_tup, q_rl, q_ref, l_rl, l_ref, t_append, t_extend, t_pop, m_append, m_extend, m_pop, st_ref, it_tup, it_rl, it_ref, rg_1, rg_2, z_2, z_3, dw_nil, dw_cons, b_abs, b_int, b_intb, b_stri, b_repr, b_lent, b_lenr, b_lenl, b_tuple, b_list, b_all, b_any, b_sum, b_max, b_min, b_sorted, List.getElem?_cons_zero, List.getElem?_cons_succ, List.set_cons_zero, List.set_cons_succ, ex_some, ex_bl, ex_int, Bool.false_eq_true, if_false, if_true, Tgs.len, DL.Tgs.len]
        refine ⟨_, _, put_same, by rw [eL]; exact atI_last _ _, inR_nat (by omega), size_of (by omega), ?_⟩
        rw [rgD_rg, ← List.map_reverse]
        refine ceq_tI ?_
        refine ret_sub (sub_new hq) ?_
        unfold isW at h
        rw [decide_eq_true hlen, hall, Bool.true_and, Bool.true_and] at h
        exact h
/-! ### steps -/
def far (a b : Nat) : Bool := decide (a + 1 < b ∨ b + 1 < a)
def near (a b : Nat) : Bool := decide (a + 1 = b ∨ b + 1 = a)
def apS (w : List Nat) (i : Nat) : Option (List Nat) := match w[i]?, w[i + 1]? with
  | some a, some b => if far a b = true then some (ex w i) else none
  | _, _ => none
def brW (w : List Nat) (i a b : Nat) : List Nat := w.take i ++ (b :: a :: b :: w.drop (i + 3))
def brS (w : List Nat) (i : Nat) : Option (List Nat) := match w[i]?, w[i + 1]?, w[i + 2]? with
  | some a, some b, some c => if a = c ∧ near a b = true then some (brW w i a b) else none
  | _, _, _ => none
def stepsA (w : List Nat) : List (List Nat) := (List.range (w.length - 1)).filterMap (apS w)
def stepsB (w : List Nat) : List (List Nat) := (List.range (w.length - 2)).filterMap (brS w)
theorem zip1_get {xs : List D} {i : Nat} {x : D} (h : (enmL (zipL [xs, xs.drop 1]))[i]? = some x) : ∃ a b, xs[i]? = some a ∧ xs[i + 1]? = some b ∧ x = .tup [.int (i : Nat), .tup [a, b]] := by
  cases q : (zipL [xs, xs.drop 1])[i]? with
  | none =>
    have h2 : (enmL (zipL [xs, xs.drop 1]))[i]? = none := by
      rw [List.getElem?_eq_none_iff] at q ⊢
      rw [enm_len]; exact q
    rw [h2] at h; cases h
  | some d =>
    rw [enm_get q] at h
    cases h
    obtain ⟨d1, d2, e1, e2, rfl⟩ := zip2_get q
    rw [List.getElem?_drop] at e2
    exact ⟨d1, d2, e1, by rw [Nat.add_comm]; exact e2, rfl⟩
theorem zip2_get' {xs : List D} {i : Nat} {x : D} (h : (enmL (zipL [xs, xs.drop 1, xs.drop 2]))[i]? = some x) : ∃ a b c, xs[i]? = some a ∧ xs[i + 1]? = some b ∧ xs[i + 2]? = some c ∧ x = .tup [.int (i : Nat), .tup [a, b, c]] := by
  cases q : (zipL [xs, xs.drop 1, xs.drop 2])[i]? with
  | none =>
    have h2 : (enmL (zipL [xs, xs.drop 1, xs.drop 2]))[i]? = none := by
      rw [List.getElem?_eq_none_iff] at q ⊢
      rw [enm_len]; exact q
    rw [h2] at h; cases h
  | some d =>
    rw [enm_get q] at h
    cases h
    obtain ⟨d1, d2, d3, e1, e2, e3, rfl⟩ := zip3_get q
    rw [List.getElem?_drop] at e2 e3
    exact ⟨d1, d2, d3, e1, by rw [Nat.add_comm]; exact e2, by rw [Nat.add_comm]; exact e3, rfl⟩
theorem wL_get {w : List Nat} {i : Nat} {d : D} (h : (wL w)[i]? = some d) : ∃ a, w[i]? = some a ∧ d = .int (a : Int) := by
  unfold wL at h
  rw [List.getElem?_map] at h
  cases q : w[i]? with
  | none => rw [q] at h; cases h
  | some a => rw [q] at h; cases h; exact ⟨a, rfl, rfl⟩
theorem get_wL {w : List Nat} {i a : Nat} (h : w[i]? = some a) : (wL w)[i]? = some (.int (a : Int)) := by
  unfold wL; rw [List.getElem?_map, h]; rfl
theorem wL_len (w : List Nat) : (wL w).length = w.length := by unfold wL; rw [List.length_map]
theorem ex_wL {w : List Nat} {i a b : Nat} (ha : w[i]? = some a) (hb : w[i + 1]? = some b) : (wL w).take i ++ (.int (b : Int) :: .int (a : Int) :: (wL w).drop (i + 2)) = wL (ex w i) := by
  rw [ex_of ha hb]
  unfold wL
  simp
theorem br_wL {w : List Nat} {i a b : Nat} : (wL w).take i ++ (.int (b : Int) :: .int (a : Int) :: .int (b : Int) :: (wL w).drop (i + 3)) = wL (brW w i a b) := by
  unfold wL brW
  simp
theorem abs_far {a b : Nat} : decide (1 < (if (a : Int) - b < 0 then -((a : Int) - b) else (a : Int) - b)) = far a b := by
  unfold far
  by_cases h : a + 1 < b ∨ b + 1 < a
  · rw [decide_eq_true h, decide_eq_true_eq]
    split <;> omega
  · rw [decide_eq_false h, decide_eq_false_iff_not]
    split <;> omega
theorem abs_near {a b : Nat} : decide ((if (a : Int) - b < 0 then -((a : Int) - b) else (a : Int) - b) = 1) = near a b := by
  unfold near
  by_cases h : a + 1 = b ∨ b + 1 = a
  · rw [decide_eq_true h, decide_eq_true_eq]
    split <;> omega
  · rw [decide_eq_false h, decide_eq_false_iff_not]
    split <;> omega
theorem range_snoc {α : Type} (f : Nat → Option α) (i : Nat) : (List.range (i + 1)).filterMap f = (List.range i).filterMap f ++ (f i).toList := by
  rw [List.range_succ, List.filterMap_append]
  congr 1
theorem fm_len {α β : Type} (f : α → Option β) (l : List α) : (l.filterMap f).length ≤ l.length := List.length_filterMap_le f l
theorem steps_apart {w : List Nat} (hl : w.length ≤ 1000) (h : ∀ q, η q = none → Q (.ref q) (put η q (.lst ((stepsA w).map wD)))) : CC (n + 1) (S "steps_apart") [wD w] η Q := by
  refine u_steps_apart ?_
  have hw' : wD w = .tup (wL w) := rfl
  simp only [o_steps_apart, rE_var, rE_int, rE_str, rE_bl, rE_non, rE_glo, rE_bin, rE_neg, rE_cmp, rE_chn, rE_and, rE_or, rE_not, rE_ife, rE_idx, rE_slc, rE_rev, rE_tup, rE_lst, rE_dic, rE_call, rE_callk, rE_isI, rE_blt, rE_rng, rE_mth, rE_lc, rT_and, rT_or, rT_not, rT_cmp, rT_chn, rT_bl, rT_var, rT_call, rT_isI, rT_blt, rA_nil, rA_cons, rA_star, rTs_nil, rTs_one, rO_no, rO_yes, rI_of, rI_rng, rI_enm, rI_ez, rI_zip, rG_name, rG_tup, rG_sub, rGs_nil, rGs_cons, rS_asg, rS_par, rS_ex, rS_ret, rS_retN, rS_ife, rS_for, rS_whl, rS_never, rS_pass, rS_brk, rS_cont, rSs_nil, rSs_cons, o_add_i, o_sub_i, o_mul_i, o_fdiv_i, o_mod_i, o_pow_i, o_add_t, o_add_s, o_add_r, c_lt_i, c_le_i, c_gt_i, c_ge_i, i_tup, i_rl, i_ref, s_tup, s_rl, s_ref, r_tup, q_tup, q_rl, q_ref, l_rl, l_ref, t_append, t_extend, t_pop, m_append, m_extend, m_pop, st_ref, it_tup, it_rl, it_ref, rg_1, rg_2, z_2, z_3, dw_nil, dw_cons, b_abs, b_int, b_intb, b_stri, b_repr, b_lent, b_lenr, b_lenl, b_tuple, b_list, b_all, b_any, b_sum, b_max, b_min, b_sorted, List.getElem?_cons_zero, List.getElem?_cons_succ, List.set_cons_zero, List.set_cons_succ, ex_some, ex_bl, ex_int, Bool.false_eq_true, if_false, if_true, Tgs.len, DL.Tgs.len]
  refine ⟨size_of (by simp), fun p hp => ?_⟩
  rw [hw']
  simp only [rE_var, rE_int, rE_str, rE_bl, rE_non, rE_glo, rE_bin, rE_neg, rE_cmp, rE_chn, rE_and, rE_or, rE_not, rE_ife, rE_idx, rE_slc, rE_rev, rE_tup, rE_lst, rE_dic, rE_call, rE_callk, rE_isI, rE_blt, rE_rng, rE_mth, rE_lc, rT_and, rT_or, rT_not, rT_cmp, rT_chn, rT_bl, rT_var, rT_call, rT_isI, rT_blt, rA_nil, rA_cons, rA_star, rTs_nil, rTs_one, rO_no, rO_yes, rI_of, rI_rng, rI_enm, rI_ez, rI_zip, rG_name, rG_tup, rG_sub, rGs_nil, rGs_cons, rS_asg, rS_par, rS_ex, rS_ret, rS_retN, rS_ife, rS_for, rS_whl, rS_never, rS_pass, rS_brk, rS_cont, rSs_nil, rSs_cons, o_add_i, o_sub_i, o_mul_i, o_fdiv_i, o_mod_i, o_pow_i, o_add_t, o_add_s, o_add_r, c_lt_i, c_le_i, c_gt_i, c_ge_i, i_tup, i_rl, i_ref, s_tup, s_rl, s_ref, r_tup, q_tup, q_rl, q_ref, l_rl, l_ref, t_append, t_extend, t_pop, m_append, m_extend, m_pop, st_ref, it_tup, it_rl, it_ref, rg_1, rg_2, z_2, z_3, dw_nil, dw_cons, b_abs, b_int, b_intb, b_stri, b_repr, b_lent, b_lenr, b_lenl, b_tuple, b_list, b_all, b_any, b_sum, b_max, b_min, b_sorted, List.getElem?_cons_zero, List.getElem?_cons_succ, List.set_cons_zero, List.set_cons_succ, ex_some, ex_bl, ex_int, Bool.false_eq_true, if_false, if_true, Tgs.len, DL.Tgs.len]
  refine ⟨_, _, rfl, rfl, ?_⟩
  have c1 : cut (wL w) (some 1) none = (wL w).drop 1 := cut_from (wL w) 1
  rw [c1]
  refine for_of (rdC_mono _) (fun i δ η' => η' = put η p (.lst (((List.range i).filterMap (apS w)).map wD)) ∧ ∃ d2 d3 d4, δ = [some (.tup (wL w)), some (.ref p), d2, d3, d4]) (fun i x δ η' hx hj => ?_) (fun δ η' hj => ?_) ⟨rfl, none, none, none, rfl⟩
  · obtain ⟨rfl, d2, d3, d4, rfl⟩ := hj
    obtain ⟨xa, xb, ea, eb, rfl⟩ := zip1_get hx
    obtain ⟨a, ha, rfl⟩ := wL_get ea
    obtain ⟨b, hb, rfl⟩ := wL_get eb
    refine ⟨⟨rfl, rfl⟩, ?_⟩
    simp only [rE_var, rE_int, rE_str, rE_bl, rE_non, rE_glo, rE_bin, rE_neg, rE_cmp, rE_chn, rE_and, rE_or, rE_not, rE_ife, rE_idx, rE_slc, rE_rev, rE_tup, rE_lst, rE_dic, rE_call, rE_callk, rE_isI, rE_blt, rE_rng, rE_mth, rE_lc, rT_and, rT_or, rT_not, rT_cmp, rT_chn, rT_bl, rT_var, rT_call, rT_isI, rT_blt, rA_nil, rA_cons, rA_star, rTs_nil, rTs_one, rO_no, rO_yes, rI_of, rI_rng, rI_enm, rI_ez, rI_zip, rG_name, rG_tup, rG_sub, rGs_nil, rGs_cons, rS_asg, rS_par, rS_ex, rS_ret, rS_retN, rS_ife, rS_for, rS_whl, rS_never, rS_pass, rS_brk, rS_cont, rSs_nil, rSs_cons, o_add_i, o_sub_i, o_mul_i, o_fdiv_i, o_mod_i, o_pow_i, o_add_t, o_add_s, o_add_r, c_lt_i, c_le_i, c_gt_i, c_ge_i, i_tup, i_rl, i_ref, s_tup, s_rl, s_ref, r_tup, q_tup, q_rl, q_ref, l_rl, l_ref, t_append, t_extend, t_pop, m_append, m_extend, m_pop, st_ref, it_tup, it_rl, it_ref, rg_1, rg_2, z_2, z_3, dw_nil, dw_cons, b_abs, b_int, b_intb, b_stri, b_repr, b_lent, b_lenr, b_lenl, b_tuple, b_list, b_all, b_any, b_sum, b_max, b_min, b_sorted, List.getElem?_cons_zero, List.getElem?_cons_succ, List.set_cons_zero, List.set_cons_succ, ex_some, ex_bl, ex_int, Bool.false_eq_true, if_false, if_true, Tgs.len, DL.Tgs.len]
    refine ⟨_, rfl, rfl, _, _, rfl, _, _, rfl, _, rfl, rfl, _, _, rfl, _, _, rfl, rfl, rfl, _, Sub.refl _, ?_⟩
    rw [c_gt_i, abs_far]
    have lt : i < w.length := (List.getElem?_eq_some_iff.mp ha).1
    by_cases hf : far a b = true
    · simp only [hf, if_true, rE_var, rE_int, rE_str, rE_bl, rE_non, rE_glo, rE_bin, rE_neg, rE_cmp, rE_chn, rE_and, rE_or, rE_not, rE_ife, rE_idx, rE_slc, rE_rev, rE_tup, rE_lst, rE_dic, rE_call, rE_callk, rE_isI, rE_blt, rE_rng, rE_mth, rE_lc, rT_and, rT_or, rT_not, rT_cmp, rT_chn, rT_bl, rT_var, rT_call, rT_isI, rT_blt, rA_nil, rA_cons, rA_star, rTs_nil, rTs_one, rO_no, rO_yes, rI_of, rI_rng, rI_enm, rI_ez, rI_zip, rG_name, rG_tup, rG_sub, rGs_nil, rGs_cons, rS_asg, rS_par, rS_ex, rS_ret, rS_retN, rS_ife, rS_for, rS_whl, rS_never, rS_pass, rS_brk, rS_cont, rSs_nil, rSs_cons, o_add_i, o_sub_i, o_mul_i, o_fdiv_i, o_mod_i, o_pow_i, o_add_t, o_add_s, o_add_r, c_lt_i, c_le_i, c_gt_i, c_ge_i, i_tup, i_rl, i_ref, s_tup, s_rl, s_ref, r_tup, q_tup, q_rl, q_ref, l_rl, l_ref, t_append, t_extend, t_pop, m_append, m_extend, m_pop, st_ref, it_tup, it_rl, it_ref, rg_1, rg_2, z_2, z_3, dw_nil, dw_cons, b_abs, b_int, b_intb, b_stri, b_repr, b_lent, b_lenr, b_lenl, b_tuple, b_list, b_all, b_any, b_sum, b_max, b_min, b_sorted, List.getElem?_cons_zero, List.getElem?_cons_succ, List.set_cons_zero, List.set_cons_succ, ex_some, ex_bl, ex_int, Bool.false_eq_true, if_false, if_true, Tgs.len, DL.Tgs.len]
      have c3 : cut (wL w) none (some (i : Int)) = (wL w).take i := cut_to _ _
      have e2 : ((i : Int) + 2) = ((i + 2 : Nat) : Int) := by omega
      rw [e2, c3, cut_from]
      refine ⟨⟨_, put_same⟩, _, rfl, _, rfl, ?_, _, put_same, ?_, ?_, _, _, _, rfl⟩
      · rw [List.append_nil, ex_wL ha hb, wL_len, ex_len]; exact size_of (by omega)
      · have := fm_len (apS w) (List.range i)
        rw [List.length_range] at this
        rw [List.length_map, sizeLine_eq]; omega
      · rw [put_put, range_snoc, List.append_nil, ex_wL ha hb]
        have e : apS w i = some (ex w i) := by unfold apS; rw [ha, hb]; simp [hf]
        rw [e, List.map_append]; rfl
    · have hf' : far a b = false := by simpa using hf
      simp only [hf', Bool.false_eq_true, if_false, rE_var, rE_int, rE_str, rE_bl, rE_non, rE_glo, rE_bin, rE_neg, rE_cmp, rE_chn, rE_and, rE_or, rE_not, rE_ife, rE_idx, rE_slc, rE_rev, rE_tup, rE_lst, rE_dic, rE_call, rE_callk, rE_isI, rE_blt, rE_rng, rE_mth, rE_lc, rT_and, rT_or, rT_not, rT_cmp, rT_chn, rT_bl, rT_var, rT_call, rT_isI, rT_blt, rA_nil, rA_cons, rA_star, rTs_nil, rTs_one, rO_no, rO_yes, rI_of, rI_rng, rI_enm, rI_ez, rI_zip, rG_name, rG_tup, rG_sub, rGs_nil, rGs_cons, rS_asg, rS_par, rS_ex, rS_ret, rS_retN, rS_ife, rS_for, rS_whl, rS_never, rS_pass, rS_brk, rS_cont, rSs_nil, rSs_cons, o_add_i, o_sub_i, o_mul_i, o_fdiv_i, o_mod_i, o_pow_i, o_add_t, o_add_s, o_add_r, c_lt_i, c_le_i, c_gt_i, c_ge_i, i_tup, i_rl, i_ref, s_tup, s_rl, s_ref, r_tup, q_tup, q_rl, q_ref, l_rl, l_ref, t_append, t_extend, t_pop, m_append, m_extend, m_pop, st_ref, it_tup, it_rl, it_ref, rg_1, rg_2, z_2, z_3, dw_nil, dw_cons, b_abs, b_int, b_intb, b_stri, b_repr, b_lent, b_lenr, b_lenl, b_tuple, b_list, b_all, b_any, b_sum, b_max, b_min, b_sorted, List.getElem?_cons_zero, List.getElem?_cons_succ, List.set_cons_zero, List.set_cons_succ, ex_some, ex_bl, ex_int, Bool.false_eq_true, if_false, if_true, Tgs.len, DL.Tgs.len]
      refine ⟨?_, _, _, _, rfl⟩
      rw [range_snoc]
      have e : apS w i = none := by unfold apS; rw [ha, hb]; simp [hf']
      rw [e]; simp
  · obtain ⟨rfl, d2, d3, d4, rfl⟩ := hj
    refine ⟨⟨rfl, rfl⟩, ?_⟩
    simp only [rE_var, rE_int, rE_str, rE_bl, rE_non, rE_glo, rE_bin, rE_neg, rE_cmp, rE_chn, rE_and, rE_or, rE_not, rE_ife, rE_idx, rE_slc, rE_rev, rE_tup, rE_lst, rE_dic, rE_call, rE_callk, rE_isI, rE_blt, rE_rng, rE_mth, rE_lc, rT_and, rT_or, rT_not, rT_cmp, rT_chn, rT_bl, rT_var, rT_call, rT_isI, rT_blt, rA_nil, rA_cons, rA_star, rTs_nil, rTs_one, rO_no, rO_yes, rI_of, rI_rng, rI_enm, rI_ez, rI_zip, rG_name, rG_tup, rG_sub, rGs_nil, rGs_cons, rS_asg, rS_par, rS_ex, rS_ret, rS_retN, rS_ife, rS_for, rS_whl, rS_never, rS_pass, rS_brk, rS_cont, rSs_nil, rSs_cons, o_add_i, o_sub_i, o_mul_i, o_fdiv_i, o_mod_i, o_pow_i, o_add_t, o_add_s, o_add_r, c_lt_i, c_le_i, c_gt_i, c_ge_i, i_tup, i_rl, i_ref, s_tup, s_rl, s_ref, r_tup, q_tup, q_rl, q_ref, l_rl, l_ref, t_append, t_extend, t_pop, m_append, m_extend, m_pop, st_ref, it_tup, it_rl, it_ref, rg_1, rg_2, z_2, z_3, dw_nil, dw_cons, b_abs, b_int, b_intb, b_stri, b_repr, b_lent, b_lenr, b_lenl, b_tuple, b_list, b_all, b_any, b_sum, b_max, b_min, b_sorted, List.getElem?_cons_zero, List.getElem?_cons_succ, List.set_cons_zero, List.set_cons_succ, ex_some, ex_bl, ex_int, Bool.false_eq_true, if_false, if_true, Tgs.len, DL.Tgs.len]
    refine ret_of ?_
    have e : (enmL (zipL [wL w, (wL w).drop 1])).length = w.length - 1 := by
      rw [enm_len, zip2_len, List.length_drop, wL_len]; omega
    rw [e]
    exact h p hp
end
end K43

set_option Elab.async false
set_option linter.all false
set_option maxRecDepth 100000
set_option maxHeartbeats 4000000
/-! K43E: sorted lists of words; all steps. -/
namespace K43
open PySem PySem.Spec PyProof.Rows L2 DL
section
variable {n : Nat} {η : Sto} {Q : DK}
def toI (w : List Nat) : List Int := w.map fun (a : Nat) => (a : Int)
theorem wD_tI (w : List Nat) : wD w = .tup ((toI w).map .int) := by unfold wD wL toI; rw [List.map_map]; rfl
def leW (a b : List Nat) : Bool := decide (toI a ≤ toI b)
def srt (ls : List (List Nat)) : List (List Nat) := ls.mergeSort leW
theorem toI_inj {a b : List Nat} (h : toI a = toI b) : a = b := by
  unfold toI at h
  exact (List.map_inj_right (fun x y e => Int.ofNat.inj e)).mp h
theorem leW_trans (a b c : List Nat) (h1 : leW a b = true) (h2 : leW b c = true) : leW a c = true := by
  unfold leW at *
  rw [decide_eq_true_eq] at *
  exact List.le_trans h1 h2
theorem leW_total (a b : List Nat) : (leW a b || leW b a) = true := by
  unfold leW
  rw [Bool.or_eq_true, decide_eq_true_eq, decide_eq_true_eq]
  exact List.le_total _ _
theorem srt_perm {l m : List (List Nat)} (h : l.Perm m) : srt l = srt m := by
  refine List.Perm.eq_of_pairwise (le := fun a b => leW a b = true) (fun a b _ _ h1 h2 => ?_) (List.pairwise_mergeSort leW_trans leW_total l) (List.pairwise_mergeSort leW_trans leW_total m) (((List.mergeSort_perm l leW).trans h).trans (List.mergeSort_perm m leW).symm)
  unfold leW at h1 h2
  rw [decide_eq_true_eq] at h1 h2
  exact toI_inj (List.le_antisymm h1 h2)
theorem srt_short {l : List (List Nat)} (h : l.length ≤ 1) : srt l = l := by
  match l, h with
  | [], _ => exact (List.mergeSort_perm [] leW).eq_nil
  | [a], _ => exact List.perm_singleton.mp (List.mergeSort_perm [a] leW)
  | _ :: _ :: _, h => simp at h
theorem zip_maps {α β γ : Type} (f : α → β) (g : α → γ) : ∀ l : List α, (l.map f).zip (l.map g) = l.map fun a => (f a, g a)
  | [] => rfl
  | a :: l => by rw [List.map_cons, List.map_cons, List.zip_cons_cons, zip_maps f g l]; rfl
theorem dataLe_W (a b : List Nat) : PySem.W.dataLe false (Prod.snd : D × PyData → PyData) (wD a, pI (toI a)) (wD b, pI (toI b)) = leW a b := by
  show (!PySem.W.dataLt (pI (toI b)) (pI (toI a))) = _
  unfold pI
  rw [PySem.W.dataLt_tuple]
  show (!PySem.W.rowLt ((toI b).map .int) ((toI a).map .int)) = _
  rw [PySem.W.dataLt_ints]
  unfold leW
  by_cases h : toI b < toI a
  · have h' : ¬ toI a ≤ toI b := fun r => List.not_lt.mpr r h
    simp [h, h']
  · have h' : toI a ≤ toI b := List.not_lt.mp h
    simp [h, h']
theorem sorted_W {p : Addr} {ls : List (List Nat)} (e : η p = some (.lst (ls.map wD))) (hk : ls.length ≤ 1 ∨ ∀ w ∈ ls, w ≠ []) (h : ∀ q, η q = none → Q (.ref q) (put η q (.lst ((srt ls).map wD)))) : bltD .sorted [.ref p] η Q := by
  rw [b_sorted]
  refine ⟨_, e, ?_⟩
  rcases hk with hk | hk
  · refine .inl ⟨by rw [List.length_map]; exact hk, fun q hq => ?_⟩
    have := h q hq
    rw [srt_short hk] at this
    exact this
  · refine .inr ⟨ls.map fun w => pI (toI w), ?_, ?_, ?_, ?_, fun q hq => ?_⟩
    · exact Pds_map fun w _ => by rw [wD_tI]; exact pd_tI _
    · exact PySem.W.AllAlike.of fun a b => PySem.W.alike_ints _ _
    · refine .inl fun d hd => ?_
      obtain ⟨w, hw, rfl⟩ := List.mem_map.mp hd
      cases w with
      | nil => exact absurd rfl (hk [] hw)
      | cons a r => exact ⟨_, _, rfl⟩
    · intro d hd
      obtain ⟨w, _, rfl⟩ := List.mem_map.mp hd
      have := depth_pI (toI w)
      omega
    · have q := h q hq
      have e1 : ((ls.map wD).zip (ls.map fun w => pI (toI w))).mergeSort (PySem.W.dataLe false Prod.snd) = (srt ls).map fun w => (wD w, pI (toI w)) := by
        rw [zip_maps]
        exact (List.map_mergeSort fun a _ b _ => (dataLe_W a b).symm).symm
      rw [e1, List.map_map]
      exact q
theorem steps_of {w : List Nat} (hl : w.length ≤ 1000) (hk : (stepsA w ++ stepsB w).length ≤ 1 ∨ ∀ v ∈ stepsA w ++ stepsB w, v ≠ []) (h : ∀ q, η q = none → Q (.ref q) (put η q (.lst ((srt (stepsA w ++ stepsB w)).map wD)))) : CC (n + 2) (S "steps_of") [wD w] η Q := by
  refine u_steps_of ?_
  have hw' : wD w = .tup (wL w) := rfl
  simp only [o_steps_of, rE_var, rE_int, rE_str, rE_bl, rE_non, rE_glo, rE_bin, rE_neg, rE_cmp, rE_chn, rE_and, rE_or, rE_not, rE_ife, rE_idx, rE_slc, rE_rev, rE_tup, rE_lst, rE_dic, rE_call, rE_callk, rE_isI, rE_blt, rE_rng, rE_mth, rE_lc, rT_and, rT_or, rT_not, rT_cmp, rT_chn, rT_bl, rT_var, rT_call, rT_isI, rT_blt, rA_nil, rA_cons, rA_star, rTs_nil, rTs_one, rO_no, rO_yes, rI_of, rI_rng, rI_enm, rI_ez, rI_zip, rG_name, rG_tup, rG_sub, rGs_nil, rGs_cons, rS_asg, rS_par, rS_ex, rS_ret, rS_retN, rS_ife, rS_for, rS_whl, rS_never, rS_pass, rS_brk, rS_cont, rSs_nil, rSs_cons, o_add_i, o_sub_i, o_mul_i, o_fdiv_i, o_mod_i, o_pow_i, o_add_t, o_add_s, o_add_r, c_lt_i, c_le_i, c_gt_i, c_ge_i, i_tup, i_rl, i_ref, s_tup, s_rl, s_ref, r_tup, q_tup, q_rl, q_ref, l_rl, l_ref, t_append, t_extend, t_pop, m_append, m_extend, m_pop, st_ref, it_tup, it_rl, it_ref, rg_1, rg_2, z_2, z_3, dw_nil, dw_cons, b_abs, b_int, b_intb, b_stri, b_lent, b_lenr, b_lenl, b_tuple, b_list, b_all, b_any, b_sum, b_max, b_min, List.getElem?_cons_zero, List.getElem?_cons_succ, List.set_cons_zero, List.set_cons_succ, ex_some, ex_bl, ex_int, Bool.false_eq_true, if_false, if_true, Tgs.len, DL.Tgs.len]
  refine steps_apart hl fun p hp => ?_
  rw [hw']
  simp only [rE_var, rE_int, rE_str, rE_bl, rE_non, rE_glo, rE_bin, rE_neg, rE_cmp, rE_chn, rE_and, rE_or, rE_not, rE_ife, rE_idx, rE_slc, rE_rev, rE_tup, rE_lst, rE_dic, rE_call, rE_callk, rE_isI, rE_blt, rE_rng, rE_mth, rE_lc, rT_and, rT_or, rT_not, rT_cmp, rT_chn, rT_bl, rT_var, rT_call, rT_isI, rT_blt, rA_nil, rA_cons, rA_star, rTs_nil, rTs_one, rO_no, rO_yes, rI_of, rI_rng, rI_enm, rI_ez, rI_zip, rG_name, rG_tup, rG_sub, rGs_nil, rGs_cons, rS_asg, rS_par, rS_ex, rS_ret, rS_retN, rS_ife, rS_for, rS_whl, rS_never, rS_pass, rS_brk, rS_cont, rSs_nil, rSs_cons, o_add_i, o_sub_i, o_mul_i, o_fdiv_i, o_mod_i, o_pow_i, o_add_t, o_add_s, o_add_r, c_lt_i, c_le_i, c_gt_i, c_ge_i, i_tup, i_rl, i_ref, s_tup, s_rl, s_ref, r_tup, q_tup, q_rl, q_ref, l_rl, l_ref, t_append, t_extend, t_pop, m_append, m_extend, m_pop, st_ref, it_tup, it_rl, it_ref, rg_1, rg_2, z_2, z_3, dw_nil, dw_cons, b_abs, b_int, b_intb, b_stri, b_lent, b_lenr, b_lenl, b_tuple, b_list, b_all, b_any, b_sum, b_max, b_min, List.getElem?_cons_zero, List.getElem?_cons_succ, List.set_cons_zero, List.set_cons_succ, ex_some, ex_bl, ex_int, Bool.false_eq_true, if_false, if_true, Tgs.len, DL.Tgs.len]
  refine ⟨_, _, _, rfl, rfl, rfl, ?_⟩
  have c1 : cut (wL w) (some 1) none = (wL w).drop 1 := cut_from (wL w) 1
  have c2 : cut (wL w) (some 2) none = (wL w).drop 2 := cut_from (wL w) 2
  rw [c1, c2]
  refine for_of (rdC_mono _) (fun i δ η' => η' = put η p (.lst ((stepsA w ++ (List.range i).filterMap (brS w)).map wD)) ∧ ∃ d2 d3 d4 d5, δ = [some (.tup (wL w)), some (.ref p), d2, d3, d4, d5]) (fun i x δ η' hx hj => ?_) (fun δ η' hj => ?_) ⟨by simp, none, none, none, none, rfl⟩
  · obtain ⟨rfl, d2, d3, d4, d5, rfl⟩ := hj
    obtain ⟨xa, xb, xc, ea, eb, ec, rfl⟩ := zip2_get' hx
    obtain ⟨a, ha, rfl⟩ := wL_get ea
    obtain ⟨b, hb, rfl⟩ := wL_get eb
    obtain ⟨c, hc, rfl⟩ := wL_get ec
    have lt : i + 2 < w.length := (List.getElem?_eq_some_iff.mp hc).1
    have nx : brS w i = none → put η p (.lst ((stepsA w ++ (List.range i).filterMap (brS w)).map wD)) = put η p (.lst ((stepsA w ++ (List.range (i + 1)).filterMap (brS w)).map wD)) := fun e => by
      rw [range_snoc, e]; simp
    refine ⟨⟨rfl, rfl, rfl⟩, ?_⟩
    simp only [rE_var, rE_int, rE_str, rE_bl, rE_non, rE_glo, rE_bin, rE_neg, rE_cmp, rE_chn, rE_and, rE_or, rE_not, rE_ife, rE_idx, rE_slc, rE_rev, rE_tup, rE_lst, rE_dic, rE_call, rE_callk, rE_isI, rE_blt, rE_rng, rE_mth, rE_lc, rT_and, rT_or, rT_not, rT_cmp, rT_chn, rT_bl, rT_var, rT_call, rT_isI, rT_blt, rA_nil, rA_cons, rA_star, rTs_nil, rTs_one, rO_no, rO_yes, rI_of, rI_rng, rI_enm, rI_ez, rI_zip, rG_name, rG_tup, rG_sub, rGs_nil, rGs_cons, rS_asg, rS_par, rS_ex, rS_ret, rS_retN, rS_ife, rS_for, rS_whl, rS_never, rS_pass, rS_brk, rS_cont, rSs_nil, rSs_cons, o_add_i, o_sub_i, o_mul_i, o_fdiv_i, o_mod_i, o_pow_i, o_add_t, o_add_s, o_add_r, c_lt_i, c_le_i, c_gt_i, c_ge_i, i_tup, i_rl, i_ref, s_tup, s_rl, s_ref, r_tup, q_tup, q_rl, q_ref, l_rl, l_ref, t_append, t_extend, t_pop, m_append, m_extend, m_pop, st_ref, it_tup, it_rl, it_ref, rg_1, rg_2, z_2, z_3, dw_nil, dw_cons, b_abs, b_int, b_intb, b_stri, b_lent, b_lenr, b_lenl, b_tuple, b_list, b_all, b_any, b_sum, b_max, b_min, List.getElem?_cons_zero, List.getElem?_cons_succ, List.set_cons_zero, List.set_cons_succ, ex_some, ex_bl, ex_int, Bool.false_eq_true, if_false, if_true, Tgs.len, DL.Tgs.len]
    refine ⟨_, rfl, rfl, _, _, rfl, _, _, rfl, _, rfl, rfl, _, _, rfl, _, _, rfl, _, _, rfl, rfl, rfl, ceq_i ?_⟩
    by_cases hac : a = c
    · subst hac
      simp only [decide_true, if_true]
      refine ⟨_, Sub.refl _, ceq_i ?_⟩
      rw [abs_near]
      by_cases hn : near a b = true
      · simp only [hn, if_true, rE_var, rE_int, rE_str, rE_bl, rE_non, rE_glo, rE_bin, rE_neg, rE_cmp, rE_chn, rE_and, rE_or, rE_not, rE_ife, rE_idx, rE_slc, rE_rev, rE_tup, rE_lst, rE_dic, rE_call, rE_callk, rE_isI, rE_blt, rE_rng, rE_mth, rE_lc, rT_and, rT_or, rT_not, rT_cmp, rT_chn, rT_bl, rT_var, rT_call, rT_isI, rT_blt, rA_nil, rA_cons, rA_star, rTs_nil, rTs_one, rO_no, rO_yes, rI_of, rI_rng, rI_enm, rI_ez, rI_zip, rG_name, rG_tup, rG_sub, rGs_nil, rGs_cons, rS_asg, rS_par, rS_ex, rS_ret, rS_retN, rS_ife, rS_for, rS_whl, rS_never, rS_pass, rS_brk, rS_cont, rSs_nil, rSs_cons, o_add_i, o_sub_i, o_mul_i, o_fdiv_i, o_mod_i, o_pow_i, o_add_t, o_add_s, o_add_r, c_lt_i, c_le_i, c_gt_i, c_ge_i, i_tup, i_rl, i_ref, s_tup, s_rl, s_ref, r_tup, q_tup, q_rl, q_ref, l_rl, l_ref, t_append, t_extend, t_pop, m_append, m_extend, m_pop, st_ref, it_tup, it_rl, it_ref, rg_1, rg_2, z_2, z_3, dw_nil, dw_cons, b_abs, b_int, b_intb, b_stri, b_lent, b_lenr, b_lenl, b_tuple, b_list, b_all, b_any, b_sum, b_max, b_min, List.getElem?_cons_zero, List.getElem?_cons_succ, List.set_cons_zero, List.set_cons_succ, ex_some, ex_bl, ex_int, Bool.false_eq_true, if_false, if_true, Tgs.len, DL.Tgs.len]
        have c3 : cut (wL w) none (some (i : Int)) = (wL w).take i := cut_to _ _
        have e3 : ((i : Int) + 3) = ((i + 3 : Nat) : Int) := by omega
        rw [e3, c3, cut_from]
        have eb : brS w i = some (brW w i a b) := by unfold brS; rw [ha, hb, hc]; simp [hn]
        refine ⟨⟨_, put_same⟩, _, rfl, _, rfl, ?_, _, put_same, ?_, ?_, _, _, _, _, rfl⟩
        · rw [List.append_nil, br_wL, wL_len]
          refine size_of ?_
          unfold brW
          simp
          omega
        · have q1 := fm_len (brS w) (List.range i)
          have q2 := fm_len (apS w) (List.range (w.length - 1))
          rw [List.length_range] at q1 q2
          rw [List.length_map, List.length_append, sizeLine_eq]
          unfold stepsA
          omega
        · rw [put_put, range_snoc, List.append_nil, br_wL, eb]
          show put η p (.lst (_ ++ [wD (brW w i a b)])) = _
          simp
      · have hn' : near a b = false := by simpa using hn
        simp only [hn', Bool.false_eq_true, if_false, rE_var, rE_int, rE_str, rE_bl, rE_non, rE_glo, rE_bin, rE_neg, rE_cmp, rE_chn, rE_and, rE_or, rE_not, rE_ife, rE_idx, rE_slc, rE_rev, rE_tup, rE_lst, rE_dic, rE_call, rE_callk, rE_isI, rE_blt, rE_rng, rE_mth, rE_lc, rT_and, rT_or, rT_not, rT_cmp, rT_chn, rT_bl, rT_var, rT_call, rT_isI, rT_blt, rA_nil, rA_cons, rA_star, rTs_nil, rTs_one, rO_no, rO_yes, rI_of, rI_rng, rI_enm, rI_ez, rI_zip, rG_name, rG_tup, rG_sub, rGs_nil, rGs_cons, rS_asg, rS_par, rS_ex, rS_ret, rS_retN, rS_ife, rS_for, rS_whl, rS_never, rS_pass, rS_brk, rS_cont, rSs_nil, rSs_cons, o_add_i, o_sub_i, o_mul_i, o_fdiv_i, o_mod_i, o_pow_i, o_add_t, o_add_s, o_add_r, c_lt_i, c_le_i, c_gt_i, c_ge_i, i_tup, i_rl, i_ref, s_tup, s_rl, s_ref, r_tup, q_tup, q_rl, q_ref, l_rl, l_ref, t_append, t_extend, t_pop, m_append, m_extend, m_pop, st_ref, it_tup, it_rl, it_ref, rg_1, rg_2, z_2, z_3, dw_nil, dw_cons, b_abs, b_int, b_intb, b_stri, b_lent, b_lenr, b_lenl, b_tuple, b_list, b_all, b_any, b_sum, b_max, b_min, List.getElem?_cons_zero, List.getElem?_cons_succ, List.set_cons_zero, List.set_cons_succ, ex_some, ex_bl, ex_int, Bool.false_eq_true, if_false, if_true, Tgs.len, DL.Tgs.len]
        exact ⟨nx (by unfold brS; rw [ha, hb, hc]; simp [hn']), _, _, _, _, rfl⟩
    · have hac' : ¬ (a : Int) = c := by omega
      simp only [hac', decide_false, Bool.false_eq_true, if_false, rE_var, rE_int, rE_str, rE_bl, rE_non, rE_glo, rE_bin, rE_neg, rE_cmp, rE_chn, rE_and, rE_or, rE_not, rE_ife, rE_idx, rE_slc, rE_rev, rE_tup, rE_lst, rE_dic, rE_call, rE_callk, rE_isI, rE_blt, rE_rng, rE_mth, rE_lc, rT_and, rT_or, rT_not, rT_cmp, rT_chn, rT_bl, rT_var, rT_call, rT_isI, rT_blt, rA_nil, rA_cons, rA_star, rTs_nil, rTs_one, rO_no, rO_yes, rI_of, rI_rng, rI_enm, rI_ez, rI_zip, rG_name, rG_tup, rG_sub, rGs_nil, rGs_cons, rS_asg, rS_par, rS_ex, rS_ret, rS_retN, rS_ife, rS_for, rS_whl, rS_never, rS_pass, rS_brk, rS_cont, rSs_nil, rSs_cons, o_add_i, o_sub_i, o_mul_i, o_fdiv_i, o_mod_i, o_pow_i, o_add_t, o_add_s, o_add_r, c_lt_i, c_le_i, c_gt_i, c_ge_i, i_tup, i_rl, i_ref, s_tup, s_rl, s_ref, r_tup, q_tup, q_rl, q_ref, l_rl, l_ref, t_append, t_extend, t_pop, m_append, m_extend, m_pop, st_ref, it_tup, it_rl, it_ref, rg_1, rg_2, z_2, z_3, dw_nil, dw_cons, b_abs, b_int, b_intb, b_stri, b_lent, b_lenr, b_lenl, b_tuple, b_list, b_all, b_any, b_sum, b_max, b_min, List.getElem?_cons_zero, List.getElem?_cons_succ, List.set_cons_zero, List.set_cons_succ, ex_some, ex_bl, ex_int, Bool.false_eq_true, if_false, if_true, Tgs.len, DL.Tgs.len]
      exact ⟨nx (by unfold brS; rw [ha, hb, hc]; simp [hac]), _, _, _, _, rfl⟩
  · obtain ⟨rfl, d2, d3, d4, d5, rfl⟩ := hj
    refine ⟨⟨rfl, rfl, rfl⟩, ?_⟩
    simp only [rE_var, rE_int, rE_str, rE_bl, rE_non, rE_glo, rE_bin, rE_neg, rE_cmp, rE_chn, rE_and, rE_or, rE_not, rE_ife, rE_idx, rE_slc, rE_rev, rE_tup, rE_lst, rE_dic, rE_call, rE_callk, rE_isI, rE_blt, rE_rng, rE_mth, rE_lc, rT_and, rT_or, rT_not, rT_cmp, rT_chn, rT_bl, rT_var, rT_call, rT_isI, rT_blt, rA_nil, rA_cons, rA_star, rTs_nil, rTs_one, rO_no, rO_yes, rI_of, rI_rng, rI_enm, rI_ez, rI_zip, rG_name, rG_tup, rG_sub, rGs_nil, rGs_cons, rS_asg, rS_par, rS_ex, rS_ret, rS_retN, rS_ife, rS_for, rS_whl, rS_never, rS_pass, rS_brk, rS_cont, rSs_nil, rSs_cons, o_add_i, o_sub_i, o_mul_i, o_fdiv_i, o_mod_i, o_pow_i, o_add_t, o_add_s, o_add_r, c_lt_i, c_le_i, c_gt_i, c_ge_i, i_tup, i_rl, i_ref, s_tup, s_rl, s_ref, r_tup, q_tup, q_rl, q_ref, l_rl, l_ref, t_append, t_extend, t_pop, m_append, m_extend, m_pop, st_ref, it_tup, it_rl, it_ref, rg_1, rg_2, z_2, z_3, dw_nil, dw_cons, b_abs, b_int, b_intb, b_stri, b_lent, b_lenr, b_lenl, b_tuple, b_list, b_all, b_any, b_sum, b_max, b_min, List.getElem?_cons_zero, List.getElem?_cons_succ, List.set_cons_zero, List.set_cons_succ, ex_some, ex_bl, ex_int, Bool.false_eq_true, if_false, if_true, Tgs.len, DL.Tgs.len]
    have e : (enmL (zipL [wL w, (wL w).drop 1, (wL w).drop 2])).length = w.length - 2 := by
      rw [enm_len, zip3_len, List.length_drop, List.length_drop, wL_len]; omega
    rw [e]
    refine sorted_W put_same hk fun q hq => ?_
    have nq : q ≠ p := fun e => by rw [e, put_same] at hq; cases hq
    have hq0 : η q = none := by rw [put_ne nq] at hq; exact hq
    exact ⟨_, Sub.refl _, ret_sub ((sub_new hp).put q _) (h q hq0)⟩
/-- how the law goes through them -/
def stepsL (w : List Nat) : List (List Nat) := (List.range (w.length - 1)).flatMap fun i => (apS w i).toList ++ (brS w i).toList
theorem flat_perm {α β : Type} (f g : α → Option β) : ∀ l : List α, (l.flatMap fun i => (f i).toList ++ (g i).toList).Perm (l.filterMap f ++ l.filterMap g)
  | [] => .refl _
  | a :: l => by
    have ih := flat_perm f g l
    rw [List.flatMap_cons]
    have e1 : (a :: l).filterMap f = (f a).toList ++ l.filterMap f := by cases h : f a <;> simp [h]
    have e2 : (a :: l).filterMap g = (g a).toList ++ l.filterMap g := by cases h : g a <;> simp [h]
    rw [e1, e2]
    refine ((ih.append_left _)).trans ?_
    rw [List.append_assoc, List.append_assoc]
    refine List.Perm.append_left _ ?_
    rw [← List.append_assoc, ← List.append_assoc]
    exact List.Perm.append_right _ List.perm_append_comm
theorem steps_perm (w : List Nat) : (stepsL w).Perm (stepsA w ++ stepsB w) := by
  have h := flat_perm (apS w) (brS w) (List.range (w.length - 1))
  have e : (List.range (w.length - 1)).filterMap (brS w) = stepsB w := by
    unfold stepsB
    rcases Nat.lt_or_ge w.length 2 with h2 | h2
    · have a1 : w.length - 1 = 0 := by omega
      have a2 : w.length - 2 = 0 := by omega
      rw [a1, a2]
    · obtain ⟨k, hk⟩ : ∃ k, w.length = k + 2 := ⟨w.length - 2, by omega⟩
      have a1 : w.length - 1 = (w.length - 2) + 1 := by omega
      rw [a1, range_snoc]
      have : brS w (w.length - 2) = none := by
        have z : w[w.length - 2 + 2]? = none := List.getElem?_eq_none (by omega)
        unfold brS
        rw [z]
        cases w[w.length - 2]? <;> cases w[w.length - 2 + 1]? <;> rfl
      rw [this]; simp
  rw [e] at h
  exact h
theorem next_words {m : Nat} {w : List Nat} (h1 : 1 ≤ m) (h9 : m ≤ 9) (g : GW m w) (hk : (stepsA w ++ stepsB w).length ≤ 1 ∨ ∀ v ∈ stepsA w ++ stepsB w, v ≠ []) (h : Q (.tup ((srt (stepsA w ++ stepsB w)).map wD)) η) : CC (n + 6) (S "next_words") [.int (m : Int), wD w] η Q := by
  refine u_next_words ?_
  simp only [o_next_words, rE_var, rE_int, rE_str, rE_bl, rE_non, rE_glo, rE_bin, rE_neg, rE_cmp, rE_chn, rE_and, rE_or, rE_not, rE_ife, rE_idx, rE_slc, rE_rev, rE_tup, rE_lst, rE_dic, rE_call, rE_callk, rE_isI, rE_blt, rE_rng, rE_mth, rE_lc, rT_and, rT_or, rT_not, rT_cmp, rT_chn, rT_bl, rT_var, rT_call, rT_isI, rT_blt, rA_nil, rA_cons, rA_star, rTs_nil, rTs_one, rO_no, rO_yes, rI_of, rI_rng, rI_enm, rI_ez, rI_zip, rG_name, rG_tup, rG_sub, rGs_nil, rGs_cons, rS_asg, rS_par, rS_ex, rS_ret, rS_retN, rS_ife, rS_for, rS_whl, rS_never, rS_pass, rS_brk, rS_cont, rSs_nil, rSs_cons, o_add_i, o_sub_i, o_mul_i, o_fdiv_i, o_mod_i, o_pow_i, o_add_t, o_add_s, o_add_r, c_lt_i, c_le_i, c_gt_i, c_ge_i, i_tup, i_rl, i_ref, s_tup, s_rl, s_ref, r_tup, q_tup, q_rl, q_ref, l_rl, l_ref, t_append, t_extend, t_pop, m_append, m_extend, m_pop, st_ref, it_tup, it_rl, it_ref, rg_1, rg_2, z_2, z_3, dw_nil, dw_cons, b_abs, b_int, b_intb, b_stri, b_lent, b_lenr, b_lenl, b_tuple, b_list, b_all, b_any, b_sum, b_max, b_min, List.getElem?_cons_zero, List.getElem?_cons_succ, List.set_cons_zero, List.set_cons_succ, ex_some, ex_bl, ex_int, Bool.false_eq_true, if_false, if_true, Tgs.len, DL.Tgs.len]
  refine ⟨_, gg9, check_many (by omega) (by omega) ?_⟩
  refine check_word h1 h9 g ?_
  have := tri_le h9
  refine steps_of (by rw [g.len]; omega) hk fun q hq => ?_
  simp only [rE_var, rE_int, rE_str, rE_bl, rE_non, rE_glo, rE_bin, rE_neg, rE_cmp, rE_chn, rE_and, rE_or, rE_not, rE_ife, rE_idx, rE_slc, rE_rev, rE_tup, rE_lst, rE_dic, rE_call, rE_callk, rE_isI, rE_blt, rE_rng, rE_mth, rE_lc, rT_and, rT_or, rT_not, rT_cmp, rT_chn, rT_bl, rT_var, rT_call, rT_isI, rT_blt, rA_nil, rA_cons, rA_star, rTs_nil, rTs_one, rO_no, rO_yes, rI_of, rI_rng, rI_enm, rI_ez, rI_zip, rG_name, rG_tup, rG_sub, rGs_nil, rGs_cons, rS_asg, rS_par, rS_ex, rS_ret, rS_retN, rS_ife, rS_for, rS_whl, rS_never, rS_pass, rS_brk, rS_cont, rSs_nil, rSs_cons, o_add_i, o_sub_i, o_mul_i, o_fdiv_i, o_mod_i, o_pow_i, o_add_t, o_add_s, o_add_r, c_lt_i, c_le_i, c_gt_i, c_ge_i, i_tup, i_rl, i_ref, s_tup, s_rl, s_ref, r_tup, q_tup, q_rl, q_ref, l_rl, l_ref, t_append, t_extend, t_pop, m_append, m_extend, m_pop, st_ref, it_tup, it_rl, it_ref, rg_1, rg_2, z_2, z_3, dw_nil, dw_cons, b_abs, b_int, b_intb, b_stri, b_lent, b_lenr, b_lenl, b_tuple, b_list, b_all, b_any, b_sum, b_max, b_min, List.getElem?_cons_zero, List.getElem?_cons_succ, List.set_cons_zero, List.set_cons_succ, ex_some, ex_bl, ex_int, Bool.false_eq_true, if_false, if_true, Tgs.len, DL.Tgs.len]
  exact ⟨_, put_same, η, sub_new hq, ret_of h⟩
end
end K43

set_option Elab.async false
set_option linter.all false
set_option maxRecDepth 100000
set_option maxHeartbeats 4000000
/-! K43F: mathematics of words: steps keep a word a word, and lead back. -/
namespace K43
open PySem PySem.Spec PyProof.Rows L2 DL
theorem ex_get {r : List Int} {i : Nat} (h : i + 1 < r.length) (k : Nat) : (ex r i)[k]? = if k = i then r[i + 1]? else if k = i + 1 then r[i]? else r[k]? := by
  have ha : r[i]? = some r[i] := by simp
  have hb : r[i + 1]? = some r[i + 1] := by simp [h]
  rw [ex_of ha hb]
  by_cases c2 : k = i
  · subst c2
    rw [if_pos rfl, List.getElem?_append_right (by rw [List.length_take]; omega), List.length_take, Nat.min_eq_left (by omega), Nat.sub_self, hb]; rfl
  · rw [if_neg c2]
    by_cases c1 : k = i + 1
    · subst c1
      rw [if_pos rfl, List.getElem?_append_right (by rw [List.length_take]; omega), List.length_take, Nat.min_eq_left (by omega)]
      have : i + 1 - i = 1 := by omega
      rw [this, ha]; rfl
    · rw [if_neg c1]
      by_cases c3 : k < i
      · rw [List.getElem?_append_left (by rw [List.length_take]; omega), List.getElem?_take_of_lt c3]
      · rw [List.getElem?_append_right (by rw [List.length_take]; omega), List.length_take, Nat.min_eq_left (by omega)]
        obtain ⟨j, rfl⟩ : ∃ j, k = i + 2 + j := ⟨k - i - 2, by omega⟩
        have : i + 2 + j - i = j + 2 := by omega
        rw [this]
        show (r.drop (i + 2))[j]? = _
        rw [List.getElem?_drop]
theorem ex_comm {r : List Int} {i j : Nat} (hi : i + 1 < r.length) (hj : j + 1 < r.length) (hf : far i j = true) : ex (ex r i) j = ex (ex r j) i := by
  have hf' : i + 1 < j ∨ j + 1 < i := of_decide_eq_true hf
  have A := fun k => ex_get hi k
  have B := fun k => ex_get hj k
  have A' := fun k => ex_get (r := ex r i) (i := j) (by rw [ex_len]; exact hj) k
  have B' := fun k => ex_get (r := ex r j) (i := i) (by rw [ex_len]; exact hi) k
  apply List.ext_getElem?
  intro k
  rw [A', B']
  simp only [A, B]
  repeat' split
  all_goals first | rfl | (exfalso; omega)
theorem ex_braid {r : List Int} {i : Nat} (h : i + 2 < r.length) : ex (ex (ex r i) (i + 1)) i = ex (ex (ex r (i + 1)) i) (i + 1) := by
  have h1 : i + 1 < r.length := by omega
  have h2 : i + 1 + 1 < r.length := by omega
  have A := fun k => ex_get h1 k
  have B := fun k => ex_get h2 k
  have A1 := fun k => ex_get (r := ex r i) (i := i + 1) (by rw [ex_len]; exact h2) k
  have B1 := fun k => ex_get (r := ex r (i + 1)) (i := i) (by rw [ex_len]; exact h1) k
  have A2 := fun k => ex_get (r := ex (ex r i) (i + 1)) (i := i) (by rw [ex_len, ex_len]; exact h1) k
  have B2 := fun k => ex_get (r := ex (ex r (i + 1)) i) (i := i + 1) (by rw [ex_len, ex_len]; exact h2) k
  apply List.ext_getElem?
  intro k
  rw [A2, B2]
  simp only [A1, B1, A, B]
  repeat' split
  all_goals first | rfl | (exfalso; omega) | exact absurd trivial (by assumption) | (subst_vars; rfl)
theorem lastF_app (r : List Int) (x y : List Nat) : lastF r (x ++ y) = lastF (lastF r x) y := List.foldl_append
theorem split2 {w : List Nat} {i a b : Nat} (ha : w[i]? = some a) (hb : w[i + 1]? = some b) : w = w.take i ++ (a :: b :: w.drop (i + 2)) := by
  have h1 := (List.getElem?_eq_some_iff.mp hb).1
  have e1 : w.drop i = a :: w.drop (i + 1) := by
    rw [List.drop_eq_getElem_cons (by omega)]
    congr 1
    exact (List.getElem?_eq_some_iff.mp ha).2
  have e2 : w.drop (i + 1) = b :: w.drop (i + 2) := by
    rw [List.drop_eq_getElem_cons h1]
    congr 1
    exact (List.getElem?_eq_some_iff.mp hb).2
  rw [← e2, ← e1, List.take_append_drop]
theorem split3 {w : List Nat} {i a b c : Nat} (ha : w[i]? = some a) (hb : w[i + 1]? = some b) (hc : w[i + 2]? = some c) : w = w.take i ++ (a :: b :: c :: w.drop (i + 3)) := by
  have h1 := (List.getElem?_eq_some_iff.mp hc).1
  have e2 : w.drop (i + 2) = c :: w.drop (i + 3) := by
    rw [List.drop_eq_getElem_cons h1]
    congr 1
    exact (List.getElem?_eq_some_iff.mp hc).2
  rw [← e2]
  exact split2 ha hb
theorem apS_some {w v : List Nat} {i : Nat} (h : apS w i = some v) : ∃ a b, w[i]? = some a ∧ w[i + 1]? = some b ∧ far a b = true ∧ v = w.take i ++ (b :: a :: w.drop (i + 2)) := by
  unfold apS at h
  split at h
  · next a b ha hb =>
    split at h
    · next hf =>
      cases h
      exact ⟨a, b, ha, hb, hf, ex_of ha hb⟩
    · cases h
  · cases h
theorem brS_some {w v : List Nat} {i : Nat} (h : brS w i = some v) : ∃ a b, w[i]? = some a ∧ w[i + 1]? = some b ∧ w[i + 2]? = some a ∧ near a b = true ∧ v = w.take i ++ (b :: a :: b :: w.drop (i + 3)) := by
  unfold brS at h
  split at h
  · next a b c ha hb hc =>
    split at h
    · next hf =>
      cases h
      obtain ⟨rfl, hn⟩ := hf
      exact ⟨a, b, ha, hb, hc, hn, rfl⟩
    · cases h
  · cases h
theorem lt_of_get {w : List Nat} {i a : Nat} (h : w[i]? = some a) : i < w.length := (List.getElem?_eq_some_iff.mp h).1
theorem row_len {m : Nat} (x : List Nat) : (lastF (rg m) x).length = m := by rw [lastF_len, rg_len]
theorem GW.ap {m : Nat} {w v : List Nat} {i : Nat} (g : GW m w) (h : apS w i = some v) : GW m v := by
  obtain ⟨a, b, ha, hb, hf, rfl⟩ := apS_some h
  have ew := split2 ha hb
  have la := g.let_ a (List.mem_of_getElem? ha)
  have lb := g.let_ b (List.mem_of_getElem? hb)
  have hi := lt_of_get hb
  refine ⟨?_, fun c hc => ?_, ?_⟩
  · rw [← g.len]
    simp
    omega
  · refine g.let_ c ?_
    rw [ew]
    simp only [List.mem_append, List.mem_cons] at hc ⊢
    rcases hc with h | h | h | h
    · exact .inl h
    · exact .inr (.inr (.inl h))
    · exact .inr (.inl h)
    · exact .inr (.inr (.inr h))
  · rw [← g.last]
    conv => rhs; rw [ew]
    rw [lastF_app, lastF_app]
    have q : lastF (lastF (rg m) (w.take i)) (b :: a :: w.drop (i + 2)) = lastF (ex (ex (lastF (rg m) (w.take i)) b) a) (w.drop (i + 2)) := rfl
    have q2 : lastF (lastF (rg m) (w.take i)) (a :: b :: w.drop (i + 2)) = lastF (ex (ex (lastF (rg m) (w.take i)) a) b) (w.drop (i + 2)) := rfl
    rw [q, q2, ex_comm (by rw [row_len]; exact la) (by rw [row_len]; exact lb) hf]
theorem GW.br {m : Nat} {w v : List Nat} {i : Nat} (g : GW m w) (h : brS w i = some v) : GW m v := by
  obtain ⟨a, b, ha, hb, hc, hn, rfl⟩ := brS_some h
  have ew := split3 ha hb hc
  have la := g.let_ a (List.mem_of_getElem? ha)
  have lb := g.let_ b (List.mem_of_getElem? hb)
  have hi := lt_of_get hc
  refine ⟨?_, fun c hc => ?_, ?_⟩
  · rw [← g.len]
    simp
    omega
  · simp only [List.mem_append, List.mem_cons] at hc
    rcases hc with h | h | h | h | h
    · exact g.let_ c (by rw [ew]; exact List.mem_append_left _ h)
    · subst h; exact lb
    · subst h; exact la
    · subst h; exact lb
    · exact g.let_ c (by rw [ew]; simp [h])
  · rw [← g.last]
    conv => rhs; rw [ew]
    rw [lastF_app, lastF_app]
    have q : lastF (lastF (rg m) (w.take i)) (b :: a :: b :: w.drop (i + 3)) = lastF (ex (ex (ex (lastF (rg m) (w.take i)) b) a) b) (w.drop (i + 3)) := rfl
    have q2 : lastF (lastF (rg m) (w.take i)) (a :: b :: a :: w.drop (i + 3)) = lastF (ex (ex (ex (lastF (rg m) (w.take i)) a) b) a) (w.drop (i + 3)) := rfl
    rw [q, q2]
    have hn' : a + 1 = b ∨ b + 1 = a := of_decide_eq_true hn
    rcases hn' with rfl | rfl
    · rw [ex_braid (by rw [row_len]; omega)]
    · rw [ex_braid (by rw [row_len]; omega)]
theorem far_symm {a b : Nat} (h : far a b = true) : far b a = true := by
  unfold far at *
  rw [decide_eq_true_eq] at *
  omega
theorem near_symm {a b : Nat} (h : near a b = true) : near b a = true := by
  unfold near at *
  rw [decide_eq_true_eq] at *
  omega
theorem get_mid0 {x y : List Nat} {i : Nat} (h : x.length = i) : (x ++ y)[i]? = y[0]? := by
  rw [List.getElem?_append_right (by omega), h, Nat.sub_self]
theorem get_mid {x y : List Nat} {i k : Nat} (h : x.length = i) : (x ++ y)[i + k]? = y[k]? := by
  rw [List.getElem?_append_right (by omega), h, Nat.add_sub_cancel_left]
theorem ap_back {w v : List Nat} {i : Nat} (h : apS w i = some v) : apS v i = some w ∧ v.length = w.length := by
  obtain ⟨a, b, ha, hb, hf, rfl⟩ := apS_some h
  have hi := lt_of_get hb
  have lt : (w.take i).length = i := by rw [List.length_take]; omega
  have g0 := get_mid0 (y := b :: a :: w.drop (i + 2)) lt
  have g1 := get_mid (k := 1) (y := b :: a :: w.drop (i + 2)) lt
  refine ⟨?_, by simp; omega⟩
  have e0 : (w.take i ++ (b :: a :: w.drop (i + 2)))[i]? = some b := g0
  have e1 : (w.take i ++ (b :: a :: w.drop (i + 2)))[i + 1]? = some a := g1
  unfold apS
  rw [e0, e1]
  simp only [far_symm hf, if_true]
  rw [ex_of e0 e1]
  congr 1
  rw [List.take_left' lt]
  have d : (w.take i ++ (b :: a :: w.drop (i + 2))).drop (i + 2) = w.drop (i + 2) := by
    rw [List.drop_append, lt]
    have z : (w.take i).drop (i + 2) = [] := List.drop_of_length_le (by omega)
    have : i + 2 - i = 2 := by omega
    rw [z, this]; rfl
  rw [d]
  exact (split2 ha hb).symm
theorem br_back {w v : List Nat} {i : Nat} (h : brS w i = some v) : brS v i = some w ∧ v.length = w.length := by
  obtain ⟨a, b, ha, hb, hc, hn, rfl⟩ := brS_some h
  have hi := lt_of_get hc
  have lt : (w.take i).length = i := by rw [List.length_take]; omega
  refine ⟨?_, by simp; omega⟩
  have e0 : (w.take i ++ (b :: a :: b :: w.drop (i + 3)))[i]? = some b := get_mid0 (y := b :: a :: b :: w.drop (i + 3)) lt
  have e1 : (w.take i ++ (b :: a :: b :: w.drop (i + 3)))[i + 1]? = some a := get_mid (k := 1) (y := b :: a :: b :: w.drop (i + 3)) lt
  have e2 : (w.take i ++ (b :: a :: b :: w.drop (i + 3)))[i + 2]? = some b := get_mid (k := 2) (y := b :: a :: b :: w.drop (i + 3)) lt
  unfold brS
  rw [e0, e1, e2]
  simp only [near_symm hn, and_self, if_true]
  unfold brW
  congr 1
  rw [List.take_left' lt]
  have d : (w.take i ++ (b :: a :: b :: w.drop (i + 3))).drop (i + 3) = w.drop (i + 3) := by
    rw [List.drop_append, lt]
    have z : (w.take i).drop (i + 3) = [] := List.drop_of_length_le (by omega)
    have : i + 3 - i = 3 := by omega
    rw [z, this]; rfl
  rw [d]
  exact (split3 ha hb hc).symm
theorem mem_steps {w v : List Nat} (h : v ∈ stepsA w ++ stepsB w) : (∃ i, i < w.length - 1 ∧ apS w i = some v) ∨ ∃ i, i < w.length - 2 ∧ brS w i = some v := by
  rcases List.mem_append.mp h with h | h
  · obtain ⟨i, hi, e⟩ := List.mem_filterMap.mp h
    exact .inl ⟨i, List.mem_range.mp hi, e⟩
  · obtain ⟨i, hi, e⟩ := List.mem_filterMap.mp h
    exact .inr ⟨i, List.mem_range.mp hi, e⟩
theorem GW.step {m : Nat} {w v : List Nat} (g : GW m w) (h : v ∈ stepsA w ++ stepsB w) : GW m v := by
  rcases mem_steps h with ⟨i, _, e⟩ | ⟨i, _, e⟩
  · exact g.ap e
  · exact g.br e
theorem step_back {w v : List Nat} (h : v ∈ stepsA w ++ stepsB w) : w ∈ stepsA v ++ stepsB v := by
  rcases mem_steps h with ⟨i, hi, e⟩ | ⟨i, hi, e⟩
  · obtain ⟨e1, e2⟩ := ap_back e
    exact List.mem_append_left _ (List.mem_filterMap.mpr ⟨i, List.mem_range.mpr (by rw [e2]; exact hi), e1⟩)
  · obtain ⟨e1, e2⟩ := br_back e
    exact List.mem_append_right _ (List.mem_filterMap.mpr ⟨i, List.mem_range.mpr (by rw [e2]; exact hi), e1⟩)
theorem steps_ne {w : List Nat} : ∀ v ∈ stepsA w ++ stepsB w, v ≠ [] := by
  intro v h e
  subst e
  rcases mem_steps h with ⟨i, hi, e⟩ | ⟨i, hi, e⟩
  · obtain ⟨a, b, _, _, _, q⟩ := apS_some e
    simp at q
  · obtain ⟨a, b, _, _, _, _, q⟩ := brS_some e
    simp at q
end K43

set_option Elab.async false
set_option linter.all false
set_option maxRecDepth 100000
set_option maxHeartbeats 4000000
/-! K43G: the law's steps. -/
namespace K43
open PySem PySem.Spec PyProof.Rows L2 DL
section
variable {n : Nat} {η : Sto} {Q : DK}
def stL (w : List Nat) (i : Nat) : List (List Nat) := (apS w i).toList ++ (brS w i).toList
def stLs (w : List Nat) (i : Nat) : List (List Nat) := (List.range i).flatMap (stL w)
theorem stLs_snoc (w : List Nat) (i : Nat) : stLs w (i + 1) = stLs w i ++ stL w i := by
  unfold stLs
  rw [List.range_succ, List.flatMap_append]
  simp
theorem stLs_len (w : List Nat) (i : Nat) : (stLs w i).length ≤ 2 * i := by
  induction i with
  | zero => simp [stLs]
  | succ i ih =>
    rw [stLs_snoc, List.length_append]
    have : (stL w i).length ≤ 2 := by
      unfold stL
      cases apS w i <;> cases brS w i <;> simp
    omega
theorem wL_cut1 {w : List Nat} {i a : Nat} (h : w[i]? = some a) : cut (wL w) (some (i : Int)) (some ((i : Int) + 1)) = [(a : Int)].map D.int := by
  have e : ((i : Int) + 1) = ((i + 1 : Nat) : Int) := by omega
  rw [e, cut_mid, List.take_add_one, get_wL h]
  have hl : ((wL w).take i).length = i := by rw [List.length_take, wL_len]; have := lt_of_get h; omega
  rw [List.drop_append, hl, Nat.sub_self, List.drop_of_length_le (by omega)]
  rfl
theorem wL_cut0 {w : List Nat} {i : Nat} (h : w[i]? = none) : cut (wL w) (some (i : Int)) (some ((i : Int) + 1)) = ([] : List Int).map D.int := by
  have e : ((i : Int) + 1) = ((i + 1 : Nat) : Int) := by omega
  have hl : w.length ≤ i := List.getElem?_eq_none_iff.mp h
  rw [e, cut_mid, List.drop_of_length_le (by rw [List.length_take, wL_len]; omega)]
  rfl
def secS : Ss := (.cons (.ife (.and (.not (.var 1)) (.and (.cmp .eq (.slc (.var 0) (.yes (.var 3)) (.yes (.bin .add (.var 3) (.int 1)))) (.slc (.var 0) (.yes (.bin .add (.var 3) (.int 2))) (.yes (.bin .add (.var 3) (.int 3))))) (.cmp .eq (.blt .abs (.cons (.bin .sub (.idx (.var 0) (.var 3)) (.idx (.var 0) (.bin .add (.var 3) (.int 1)))) .nil)) (.int 1)))) (.cons (.ex (.mth .append (.var 2) (.cons (.bin .add (.bin .add (.slc (.var 0) .no (.yes (.var 3))) (.tup (.cons (.idx (.var 0) (.bin .add (.var 3) (.int 1))) (.cons (.idx (.var 0) (.var 3)) (.cons (.idx (.var 0) (.bin .add (.var 3) (.int 1))) .nil))))) (.slc (.var 0) (.yes (.bin .add (.var 3) (.int 3))) .no)) .nil))) .nil) .nil) .nil)
theorem law_steps {w : List Nat} (hl : w.length ≤ 1000) (h : Q (.tup ((srt (stepsL w)).map wD)) η) : CC (n + 1) (S "_law_steps") [wD w, .bl false] η Q := by
  refine u__law_steps ?_
  have hw' : wD w = .tup (wL w) := rfl
  simp only [o__law_steps, rE_var, rE_int, rE_str, rE_bl, rE_non, rE_glo, rE_bin, rE_neg, rE_cmp, rE_chn, rE_and, rE_or, rE_not, rE_ife, rE_idx, rE_slc, rE_rev, rE_tup, rE_lst, rE_dic, rE_call, rE_callk, rE_isI, rE_blt, rE_rng, rE_mth, rE_lc, rT_and, rT_or, rT_not, rT_cmp, rT_chn, rT_bl, rT_var, rT_call, rT_isI, rT_blt, rA_nil, rA_cons, rA_star, rTs_nil, rTs_one, rO_no, rO_yes, rI_of, rI_rng, rI_enm, rI_ez, rI_zip, rG_name, rG_tup, rG_sub, rGs_nil, rGs_cons, rS_asg, rS_par, rS_ex, rS_ret, rS_retN, rS_ife, rS_for, rS_whl, rS_never, rS_pass, rS_brk, rS_cont, rSs_nil, rSs_cons, o_add_i, o_sub_i, o_mul_i, o_fdiv_i, o_mod_i, o_pow_i, o_add_t, o_add_s, o_add_r, c_lt_i, c_le_i, c_gt_i, c_ge_i, i_tup, i_rl, i_ref, s_tup, s_rl, s_ref, r_tup, q_tup, q_rl, q_ref, l_rl, l_ref, t_append, t_extend, t_pop, m_append, m_extend, m_pop, st_ref, it_tup, it_rl, it_ref, rg_1, rg_2, z_2, z_3, dw_nil, dw_cons, b_abs, b_int, b_intb, b_stri, b_lent, b_lenr, b_lenl, b_tuple, b_list, b_all, b_any, b_sum, b_max, b_min, List.getElem?_cons_zero, List.getElem?_cons_succ, List.set_cons_zero, List.set_cons_succ, ex_some, ex_bl, ex_int, Bool.false_eq_true, if_false, if_true, Tgs.len, DL.Tgs.len]
  refine ⟨size_of (by simp), fun p hp => ?_⟩
  rw [hw']
  simp only [rE_var, rE_int, rE_str, rE_bl, rE_non, rE_glo, rE_bin, rE_neg, rE_cmp, rE_chn, rE_and, rE_or, rE_not, rE_ife, rE_idx, rE_slc, rE_rev, rE_tup, rE_lst, rE_dic, rE_call, rE_callk, rE_isI, rE_blt, rE_rng, rE_mth, rE_lc, rT_and, rT_or, rT_not, rT_cmp, rT_chn, rT_bl, rT_var, rT_call, rT_isI, rT_blt, rA_nil, rA_cons, rA_star, rTs_nil, rTs_one, rO_no, rO_yes, rI_of, rI_rng, rI_enm, rI_ez, rI_zip, rG_name, rG_tup, rG_sub, rGs_nil, rGs_cons, rS_asg, rS_par, rS_ex, rS_ret, rS_retN, rS_ife, rS_for, rS_whl, rS_never, rS_pass, rS_brk, rS_cont, rSs_nil, rSs_cons, o_add_i, o_sub_i, o_mul_i, o_fdiv_i, o_mod_i, o_pow_i, o_add_t, o_add_s, o_add_r, c_lt_i, c_le_i, c_gt_i, c_ge_i, i_tup, i_rl, i_ref, s_tup, s_rl, s_ref, r_tup, q_tup, q_rl, q_ref, l_rl, l_ref, t_append, t_extend, t_pop, m_append, m_extend, m_pop, st_ref, it_tup, it_rl, it_ref, rg_1, rg_2, z_2, z_3, dw_nil, dw_cons, b_abs, b_int, b_intb, b_stri, b_lent, b_lenr, b_lenl, b_tuple, b_list, b_all, b_any, b_sum, b_max, b_min, List.getElem?_cons_zero, List.getElem?_cons_succ, List.set_cons_zero, List.set_cons_succ, ex_some, ex_bl, ex_int, Bool.false_eq_true, if_false, if_true, Tgs.len, DL.Tgs.len]
  refine ⟨_, rfl, _, Sub.refl _, ?_⟩
  rw [wL_len]
  refine ⟨⟨by omega, by omega⟩, ?_⟩
  have eL : rngD 0 ((w.length : Int) - 1) = (List.range (w.length - 1)).map fun (i : Nat) => .int (i : Int) := by
    unfold rngD
    have : ((w.length : Int) - 1 - 0).toNat = w.length - 1 := by omega
    rw [this]
    simp
  rw [eL]
  refine for_of (rdC_mono _) (fun i δ η' => η' = put η p (.lst ((stLs w i).map wD)) ∧ ∃ d3, δ = [some (.tup (wL w)), some (.bl false), some (.ref p), d3]) (fun i x δ η' hx hj => ?_) (fun δ η' hj => ?_) ⟨rfl, none, rfl⟩
  · obtain ⟨rfl, d3, rfl⟩ := hj
    rw [List.getElem?_map] at hx
    cases hi : (List.range (w.length - 1))[i]? with
    | none => rw [hi] at hx; cases hx
    | some k =>
      have hlt : i < w.length - 1 := by simpa using (List.getElem?_eq_some_iff.mp hi).1
      rw [List.getElem?_range hlt] at hi
      cases hi
      rw [List.getElem?_range hlt] at hx
      cases hx
      obtain ⟨a, ha⟩ : ∃ a, w[i]? = some a := ⟨w[i], by simp⟩
      obtain ⟨b, hb⟩ : ∃ b, w[i + 1]? = some b := ⟨w[i + 1], by simp⟩
      have lsl := stLs_len w i
      refine ⟨trivial, ?_⟩
      have i1 : atI (wL w) (i : Int) = some (.int (a : Int)) := atI_nat (get_wL ha)
      have i2 : atI (wL w) ((i : Int) + 1) = some (.int (b : Int)) := atI_nat (j := i + 1) (get_wL hb)
      have c3 : cut (wL w) none (some (i : Int)) = (wL w).take i := cut_to _ _
      have e2 : ((i : Int) + 2) = ((i + 2 : Nat) : Int) := by omega
      have e3 : ((i : Int) + 3) = ((i + 2 : Nat) : Int) + 1 := by omega
      have e3' : ((i : Int) + 3) = ((i + 3 : Nat) : Int) := by omega
      -- the second test and what it adds
      have second : ∀ (T : List (List Nat)) (E : DEnds), T.length ≤ 3000 → (∀ d3, E.nx [some (.tup (wL w)), some (.bl false), some (.ref p), d3] (put η p (.lst ((T ++ (brS w i).toList).map wD)))) →
          rdSs (CC n) GG secS E [some (.tup (wL w)), some (.bl false), some (.ref p), some (.int (i : Int))] (put η p (.lst (T.map wD))) := by
        intro T E hT hE
        simp only [secS, rE_var, rE_int, rE_str, rE_bl, rE_non, rE_glo, rE_bin, rE_neg, rE_cmp, rE_chn, rE_and, rE_or, rE_not, rE_ife, rE_idx, rE_slc, rE_rev, rE_tup, rE_lst, rE_dic, rE_call, rE_callk, rE_isI, rE_blt, rE_rng, rE_mth, rE_lc, rT_and, rT_or, rT_not, rT_cmp, rT_chn, rT_bl, rT_var, rT_call, rT_isI, rT_blt, rA_nil, rA_cons, rA_star, rTs_nil, rTs_one, rO_no, rO_yes, rI_of, rI_rng, rI_enm, rI_ez, rI_zip, rG_name, rG_tup, rG_sub, rGs_nil, rGs_cons, rS_asg, rS_par, rS_ex, rS_ret, rS_retN, rS_ife, rS_for, rS_whl, rS_never, rS_pass, rS_brk, rS_cont, rSs_nil, rSs_cons, o_add_i, o_sub_i, o_mul_i, o_fdiv_i, o_mod_i, o_pow_i, o_add_t, o_add_s, o_add_r, c_lt_i, c_le_i, c_gt_i, c_ge_i, i_tup, i_rl, i_ref, s_tup, s_rl, s_ref, r_tup, q_tup, q_rl, q_ref, l_rl, l_ref, t_append, t_extend, t_pop, m_append, m_extend, m_pop, st_ref, it_tup, it_rl, it_ref, rg_1, rg_2, z_2, z_3, dw_nil, dw_cons, b_abs, b_int, b_intb, b_stri, b_lent, b_lenr, b_lenl, b_tuple, b_list, b_all, b_any, b_sum, b_max, b_min, List.getElem?_cons_zero, List.getElem?_cons_succ, List.set_cons_zero, List.set_cons_succ, ex_some, ex_bl, ex_int, Bool.false_eq_true, if_false, if_true, Tgs.len, DL.Tgs.len]
        refine ⟨false, rfl, ?_⟩
        simp only [Bool.not_false, rE_var, rE_int, rE_str, rE_bl, rE_non, rE_glo, rE_bin, rE_neg, rE_cmp, rE_chn, rE_and, rE_or, rE_not, rE_ife, rE_idx, rE_slc, rE_rev, rE_tup, rE_lst, rE_dic, rE_call, rE_callk, rE_isI, rE_blt, rE_rng, rE_mth, rE_lc, rT_and, rT_or, rT_not, rT_cmp, rT_chn, rT_bl, rT_var, rT_call, rT_isI, rT_blt, rA_nil, rA_cons, rA_star, rTs_nil, rTs_one, rO_no, rO_yes, rI_of, rI_rng, rI_enm, rI_ez, rI_zip, rG_name, rG_tup, rG_sub, rGs_nil, rGs_cons, rS_asg, rS_par, rS_ex, rS_ret, rS_retN, rS_ife, rS_for, rS_whl, rS_never, rS_pass, rS_brk, rS_cont, rSs_nil, rSs_cons, o_add_i, o_sub_i, o_mul_i, o_fdiv_i, o_mod_i, o_pow_i, o_add_t, o_add_s, o_add_r, c_lt_i, c_le_i, c_gt_i, c_ge_i, i_tup, i_rl, i_ref, s_tup, s_rl, s_ref, r_tup, q_tup, q_rl, q_ref, l_rl, l_ref, t_append, t_extend, t_pop, m_append, m_extend, m_pop, st_ref, it_tup, it_rl, it_ref, rg_1, rg_2, z_2, z_3, dw_nil, dw_cons, b_abs, b_int, b_intb, b_stri, b_lent, b_lenr, b_lenl, b_tuple, b_list, b_all, b_any, b_sum, b_max, b_min, List.getElem?_cons_zero, List.getElem?_cons_succ, List.set_cons_zero, List.set_cons_succ, ex_some, ex_bl, ex_int, Bool.false_eq_true, if_false, if_true, Tgs.len, DL.Tgs.len]
        rw [wL_cut1 ha]
        have done0 : brS w i = none → E.nx [some (.tup (wL w)), some (.bl false), some (.ref p), some (.int (i : Int))] (put η p (.lst (T.map wD))) := fun e => by
          have q := hE (some (.int (i : Int)))
          rw [e] at q
          simpa using q
        cases hc : w[i + 2]? with
        | none =>
          rw [e3, e2, wL_cut0 hc]
          refine ceq_tI ?_
          have : ¬ ([(a : Int)] = []) := by simp
          simp only [this, decide_false, rE_var, rE_int, rE_str, rE_bl, rE_non, rE_glo, rE_bin, rE_neg, rE_cmp, rE_chn, rE_and, rE_or, rE_not, rE_ife, rE_idx, rE_slc, rE_rev, rE_tup, rE_lst, rE_dic, rE_call, rE_callk, rE_isI, rE_blt, rE_rng, rE_mth, rE_lc, rT_and, rT_or, rT_not, rT_cmp, rT_chn, rT_bl, rT_var, rT_call, rT_isI, rT_blt, rA_nil, rA_cons, rA_star, rTs_nil, rTs_one, rO_no, rO_yes, rI_of, rI_rng, rI_enm, rI_ez, rI_zip, rG_name, rG_tup, rG_sub, rGs_nil, rGs_cons, rS_asg, rS_par, rS_ex, rS_ret, rS_retN, rS_ife, rS_for, rS_whl, rS_never, rS_pass, rS_brk, rS_cont, rSs_nil, rSs_cons, o_add_i, o_sub_i, o_mul_i, o_fdiv_i, o_mod_i, o_pow_i, o_add_t, o_add_s, o_add_r, c_lt_i, c_le_i, c_gt_i, c_ge_i, i_tup, i_rl, i_ref, s_tup, s_rl, s_ref, r_tup, q_tup, q_rl, q_ref, l_rl, l_ref, t_append, t_extend, t_pop, m_append, m_extend, m_pop, st_ref, it_tup, it_rl, it_ref, rg_1, rg_2, z_2, z_3, dw_nil, dw_cons, b_abs, b_int, b_intb, b_stri, b_lent, b_lenr, b_lenl, b_tuple, b_list, b_all, b_any, b_sum, b_max, b_min, List.getElem?_cons_zero, List.getElem?_cons_succ, List.set_cons_zero, List.set_cons_succ, ex_some, ex_bl, ex_int, Bool.false_eq_true, if_false, if_true, Tgs.len, DL.Tgs.len]
          exact done0 (by unfold brS; rw [ha, hb, hc])
        | some c =>
          rw [e3, e2, wL_cut1 hc]
          refine ceq_tI ?_
          by_cases hac : a = c
          · subst hac
            simp only [decide_true, rE_var, rE_int, rE_str, rE_bl, rE_non, rE_glo, rE_bin, rE_neg, rE_cmp, rE_chn, rE_and, rE_or, rE_not, rE_ife, rE_idx, rE_slc, rE_rev, rE_tup, rE_lst, rE_dic, rE_call, rE_callk, rE_isI, rE_blt, rE_rng, rE_mth, rE_lc, rT_and, rT_or, rT_not, rT_cmp, rT_chn, rT_bl, rT_var, rT_call, rT_isI, rT_blt, rA_nil, rA_cons, rA_star, rTs_nil, rTs_one, rO_no, rO_yes, rI_of, rI_rng, rI_enm, rI_ez, rI_zip, rG_name, rG_tup, rG_sub, rGs_nil, rGs_cons, rS_asg, rS_par, rS_ex, rS_ret, rS_retN, rS_ife, rS_for, rS_whl, rS_never, rS_pass, rS_brk, rS_cont, rSs_nil, rSs_cons, o_add_i, o_sub_i, o_mul_i, o_fdiv_i, o_mod_i, o_pow_i, o_add_t, o_add_s, o_add_r, c_lt_i, c_le_i, c_gt_i, c_ge_i, i_tup, i_rl, i_ref, s_tup, s_rl, s_ref, r_tup, q_tup, q_rl, q_ref, l_rl, l_ref, t_append, t_extend, t_pop, m_append, m_extend, m_pop, st_ref, it_tup, it_rl, it_ref, rg_1, rg_2, z_2, z_3, dw_nil, dw_cons, b_abs, b_int, b_intb, b_stri, b_lent, b_lenr, b_lenl, b_tuple, b_list, b_all, b_any, b_sum, b_max, b_min, List.getElem?_cons_zero, List.getElem?_cons_succ, List.set_cons_zero, List.set_cons_succ, ex_some, ex_bl, ex_int, Bool.false_eq_true, if_false, if_true, Tgs.len, DL.Tgs.len]
            refine ⟨_, i1, _, i2, ?_⟩
            simp only [rE_var, rE_int, rE_str, rE_bl, rE_non, rE_glo, rE_bin, rE_neg, rE_cmp, rE_chn, rE_and, rE_or, rE_not, rE_ife, rE_idx, rE_slc, rE_rev, rE_tup, rE_lst, rE_dic, rE_call, rE_callk, rE_isI, rE_blt, rE_rng, rE_mth, rE_lc, rT_and, rT_or, rT_not, rT_cmp, rT_chn, rT_bl, rT_var, rT_call, rT_isI, rT_blt, rA_nil, rA_cons, rA_star, rTs_nil, rTs_one, rO_no, rO_yes, rI_of, rI_rng, rI_enm, rI_ez, rI_zip, rG_name, rG_tup, rG_sub, rGs_nil, rGs_cons, rS_asg, rS_par, rS_ex, rS_ret, rS_retN, rS_ife, rS_for, rS_whl, rS_never, rS_pass, rS_brk, rS_cont, rSs_nil, rSs_cons, o_add_i, o_sub_i, o_mul_i, o_fdiv_i, o_mod_i, o_pow_i, o_add_t, o_add_s, o_add_r, c_lt_i, c_le_i, c_gt_i, c_ge_i, i_tup, i_rl, i_ref, s_tup, s_rl, s_ref, r_tup, q_tup, q_rl, q_ref, l_rl, l_ref, t_append, t_extend, t_pop, m_append, m_extend, m_pop, st_ref, it_tup, it_rl, it_ref, rg_1, rg_2, z_2, z_3, dw_nil, dw_cons, b_abs, b_int, b_intb, b_stri, b_lent, b_lenr, b_lenl, b_tuple, b_list, b_all, b_any, b_sum, b_max, b_min, List.getElem?_cons_zero, List.getElem?_cons_succ, List.set_cons_zero, List.set_cons_succ, ex_some, ex_bl, ex_int, Bool.false_eq_true, if_false, if_true, Tgs.len, DL.Tgs.len]
            refine ⟨_, Sub.refl _, ceq_i ?_⟩
            rw [abs_near]
            by_cases hn : near a b = true
            · simp only [hn, rE_var, rE_int, rE_str, rE_bl, rE_non, rE_glo, rE_bin, rE_neg, rE_cmp, rE_chn, rE_and, rE_or, rE_not, rE_ife, rE_idx, rE_slc, rE_rev, rE_tup, rE_lst, rE_dic, rE_call, rE_callk, rE_isI, rE_blt, rE_rng, rE_mth, rE_lc, rT_and, rT_or, rT_not, rT_cmp, rT_chn, rT_bl, rT_var, rT_call, rT_isI, rT_blt, rA_nil, rA_cons, rA_star, rTs_nil, rTs_one, rO_no, rO_yes, rI_of, rI_rng, rI_enm, rI_ez, rI_zip, rG_name, rG_tup, rG_sub, rGs_nil, rGs_cons, rS_asg, rS_par, rS_ex, rS_ret, rS_retN, rS_ife, rS_for, rS_whl, rS_never, rS_pass, rS_brk, rS_cont, rSs_nil, rSs_cons, o_add_i, o_sub_i, o_mul_i, o_fdiv_i, o_mod_i, o_pow_i, o_add_t, o_add_s, o_add_r, c_lt_i, c_le_i, c_gt_i, c_ge_i, i_tup, i_rl, i_ref, s_tup, s_rl, s_ref, r_tup, q_tup, q_rl, q_ref, l_rl, l_ref, t_append, t_extend, t_pop, m_append, m_extend, m_pop, st_ref, it_tup, it_rl, it_ref, rg_1, rg_2, z_2, z_3, dw_nil, dw_cons, b_abs, b_int, b_intb, b_stri, b_lent, b_lenr, b_lenl, b_tuple, b_list, b_all, b_any, b_sum, b_max, b_min, List.getElem?_cons_zero, List.getElem?_cons_succ, List.set_cons_zero, List.set_cons_succ, ex_some, ex_bl, ex_int, Bool.false_eq_true, if_false, if_true, Tgs.len, DL.Tgs.len]
              have eb : brS w i = some (brW w i a b) := by unfold brS; rw [ha, hb, hc]; simp [hn]
              refine ⟨⟨_, put_same⟩, _, i2, _, i1, _, i2, size_of (by simp), ?_⟩
              rw [c3]
              refine ⟨?_, ?_⟩
              · rw [List.length_take, wL_len]; exact size_of (by simp; omega)
              · have e33 : ((i + 2 : Nat) : Int) + 1 = ((i + 3 : Nat) : Int) := by omega
                rw [e33, cut_from]
                refine ⟨?_, _, put_same, ?_, ?_⟩
                · simp only [List.length_append, List.length_take, List.length_drop, List.length_cons, List.length_nil, wL_len]
                  exact size_of (by omega)
                · rw [List.length_map, sizeLine_eq]; omega
                · have q := hE (some (.int (i : Int)))
                  rw [eb] at q
                  rw [put_put]
                  have e5 : (wL w).take i ++ [D.int (b : Int), D.int (a : Int), D.int (b : Int)] ++ (wL w).drop (i + 3) = wL (brW w i a b) := by
                    rw [← br_wL, List.append_assoc]; rfl
                  rw [e5]
                  simp only [Option.toList_some, List.map_append, List.map_cons, List.map_nil] at q
                  exact q
            · have hn' : near a b = false := by simpa using hn
              simp only [hn', rE_var, rE_int, rE_str, rE_bl, rE_non, rE_glo, rE_bin, rE_neg, rE_cmp, rE_chn, rE_and, rE_or, rE_not, rE_ife, rE_idx, rE_slc, rE_rev, rE_tup, rE_lst, rE_dic, rE_call, rE_callk, rE_isI, rE_blt, rE_rng, rE_mth, rE_lc, rT_and, rT_or, rT_not, rT_cmp, rT_chn, rT_bl, rT_var, rT_call, rT_isI, rT_blt, rA_nil, rA_cons, rA_star, rTs_nil, rTs_one, rO_no, rO_yes, rI_of, rI_rng, rI_enm, rI_ez, rI_zip, rG_name, rG_tup, rG_sub, rGs_nil, rGs_cons, rS_asg, rS_par, rS_ex, rS_ret, rS_retN, rS_ife, rS_for, rS_whl, rS_never, rS_pass, rS_brk, rS_cont, rSs_nil, rSs_cons, o_add_i, o_sub_i, o_mul_i, o_fdiv_i, o_mod_i, o_pow_i, o_add_t, o_add_s, o_add_r, c_lt_i, c_le_i, c_gt_i, c_ge_i, i_tup, i_rl, i_ref, s_tup, s_rl, s_ref, r_tup, q_tup, q_rl, q_ref, l_rl, l_ref, t_append, t_extend, t_pop, m_append, m_extend, m_pop, st_ref, it_tup, it_rl, it_ref, rg_1, rg_2, z_2, z_3, dw_nil, dw_cons, b_abs, b_int, b_intb, b_stri, b_lent, b_lenr, b_lenl, b_tuple, b_list, b_all, b_any, b_sum, b_max, b_min, List.getElem?_cons_zero, List.getElem?_cons_succ, List.set_cons_zero, List.set_cons_succ, ex_some, ex_bl, ex_int, Bool.false_eq_true, if_false, if_true, Tgs.len, DL.Tgs.len]
              exact done0 (by unfold brS; rw [ha, hb, hc]; simp [hn'])
          · have hac' : ¬ ([(a : Int)] = [(c : Int)]) := by simp; omega
            simp only [hac', decide_false, rE_var, rE_int, rE_str, rE_bl, rE_non, rE_glo, rE_bin, rE_neg, rE_cmp, rE_chn, rE_and, rE_or, rE_not, rE_ife, rE_idx, rE_slc, rE_rev, rE_tup, rE_lst, rE_dic, rE_call, rE_callk, rE_isI, rE_blt, rE_rng, rE_mth, rE_lc, rT_and, rT_or, rT_not, rT_cmp, rT_chn, rT_bl, rT_var, rT_call, rT_isI, rT_blt, rA_nil, rA_cons, rA_star, rTs_nil, rTs_one, rO_no, rO_yes, rI_of, rI_rng, rI_enm, rI_ez, rI_zip, rG_name, rG_tup, rG_sub, rGs_nil, rGs_cons, rS_asg, rS_par, rS_ex, rS_ret, rS_retN, rS_ife, rS_for, rS_whl, rS_never, rS_pass, rS_brk, rS_cont, rSs_nil, rSs_cons, o_add_i, o_sub_i, o_mul_i, o_fdiv_i, o_mod_i, o_pow_i, o_add_t, o_add_s, o_add_r, c_lt_i, c_le_i, c_gt_i, c_ge_i, i_tup, i_rl, i_ref, s_tup, s_rl, s_ref, r_tup, q_tup, q_rl, q_ref, l_rl, l_ref, t_append, t_extend, t_pop, m_append, m_extend, m_pop, st_ref, it_tup, it_rl, it_ref, rg_1, rg_2, z_2, z_3, dw_nil, dw_cons, b_abs, b_int, b_intb, b_stri, b_lent, b_lenr, b_lenl, b_tuple, b_list, b_all, b_any, b_sum, b_max, b_min, List.getElem?_cons_zero, List.getElem?_cons_succ, List.set_cons_zero, List.set_cons_succ, ex_some, ex_bl, ex_int, Bool.false_eq_true, if_false, if_true, Tgs.len, DL.Tgs.len]
            exact done0 (by unfold brS; rw [ha, hb, hc]; simp [hac])
      change rdSs (CC n) GG (.cons (.ife _ _ .nil) secS) _ _ _
      simp only [rE_var, rE_int, rE_str, rE_bl, rE_non, rE_glo, rE_bin, rE_neg, rE_cmp, rE_chn, rE_and, rE_or, rE_not, rE_ife, rE_idx, rE_slc, rE_rev, rE_tup, rE_lst, rE_dic, rE_call, rE_callk, rE_isI, rE_blt, rE_rng, rE_mth, rE_lc, rT_and, rT_or, rT_not, rT_cmp, rT_chn, rT_bl, rT_var, rT_call, rT_isI, rT_blt, rA_nil, rA_cons, rA_star, rTs_nil, rTs_one, rO_no, rO_yes, rI_of, rI_rng, rI_enm, rI_ez, rI_zip, rG_name, rG_tup, rG_sub, rGs_nil, rGs_cons, rS_asg, rS_par, rS_ex, rS_ret, rS_retN, rS_ife, rS_for, rS_whl, rS_never, rS_pass, rS_brk, rS_cont, rSs_nil, rSs_cons, o_add_i, o_sub_i, o_mul_i, o_fdiv_i, o_mod_i, o_pow_i, o_add_t, o_add_s, o_add_r, c_lt_i, c_le_i, c_gt_i, c_ge_i, i_tup, i_rl, i_ref, s_tup, s_rl, s_ref, r_tup, q_tup, q_rl, q_ref, l_rl, l_ref, t_append, t_extend, t_pop, m_append, m_extend, m_pop, st_ref, it_tup, it_rl, it_ref, rg_1, rg_2, z_2, z_3, dw_nil, dw_cons, b_abs, b_int, b_intb, b_stri, b_lent, b_lenr, b_lenl, b_tuple, b_list, b_all, b_any, b_sum, b_max, b_min, List.getElem?_cons_zero, List.getElem?_cons_succ, List.set_cons_zero, List.set_cons_succ, ex_some, ex_bl, ex_int, Bool.false_eq_true, if_false, if_true, Tgs.len, DL.Tgs.len]
      refine ⟨_, i1, _, i2, ?_⟩
      simp only [rE_var, rE_int, rE_str, rE_bl, rE_non, rE_glo, rE_bin, rE_neg, rE_cmp, rE_chn, rE_and, rE_or, rE_not, rE_ife, rE_idx, rE_slc, rE_rev, rE_tup, rE_lst, rE_dic, rE_call, rE_callk, rE_isI, rE_blt, rE_rng, rE_mth, rE_lc, rT_and, rT_or, rT_not, rT_cmp, rT_chn, rT_bl, rT_var, rT_call, rT_isI, rT_blt, rA_nil, rA_cons, rA_star, rTs_nil, rTs_one, rO_no, rO_yes, rI_of, rI_rng, rI_enm, rI_ez, rI_zip, rG_name, rG_tup, rG_sub, rGs_nil, rGs_cons, rS_asg, rS_par, rS_ex, rS_ret, rS_retN, rS_ife, rS_for, rS_whl, rS_never, rS_pass, rS_brk, rS_cont, rSs_nil, rSs_cons, o_add_i, o_sub_i, o_mul_i, o_fdiv_i, o_mod_i, o_pow_i, o_add_t, o_add_s, o_add_r, c_lt_i, c_le_i, c_gt_i, c_ge_i, i_tup, i_rl, i_ref, s_tup, s_rl, s_ref, r_tup, q_tup, q_rl, q_ref, l_rl, l_ref, t_append, t_extend, t_pop, m_append, m_extend, m_pop, st_ref, it_tup, it_rl, it_ref, rg_1, rg_2, z_2, z_3, dw_nil, dw_cons, b_abs, b_int, b_intb, b_stri, b_lent, b_lenr, b_lenl, b_tuple, b_list, b_all, b_any, b_sum, b_max, b_min, List.getElem?_cons_zero, List.getElem?_cons_succ, List.set_cons_zero, List.set_cons_succ, ex_some, ex_bl, ex_int, Bool.false_eq_true, if_false, if_true, Tgs.len, DL.Tgs.len]
      refine ⟨_, Sub.refl _, ?_⟩
      rw [abs_far]
      by_cases hf : far a b = true
      · simp only [hf, rE_var, rE_int, rE_str, rE_bl, rE_non, rE_glo, rE_bin, rE_neg, rE_cmp, rE_chn, rE_and, rE_or, rE_not, rE_ife, rE_idx, rE_slc, rE_rev, rE_tup, rE_lst, rE_dic, rE_call, rE_callk, rE_isI, rE_blt, rE_rng, rE_mth, rE_lc, rT_and, rT_or, rT_not, rT_cmp, rT_chn, rT_bl, rT_var, rT_call, rT_isI, rT_blt, rA_nil, rA_cons, rA_star, rTs_nil, rTs_one, rO_no, rO_yes, rI_of, rI_rng, rI_enm, rI_ez, rI_zip, rG_name, rG_tup, rG_sub, rGs_nil, rGs_cons, rS_asg, rS_par, rS_ex, rS_ret, rS_retN, rS_ife, rS_for, rS_whl, rS_never, rS_pass, rS_brk, rS_cont, rSs_nil, rSs_cons, o_add_i, o_sub_i, o_mul_i, o_fdiv_i, o_mod_i, o_pow_i, o_add_t, o_add_s, o_add_r, c_lt_i, c_le_i, c_gt_i, c_ge_i, i_tup, i_rl, i_ref, s_tup, s_rl, s_ref, r_tup, q_tup, q_rl, q_ref, l_rl, l_ref, t_append, t_extend, t_pop, m_append, m_extend, m_pop, st_ref, it_tup, it_rl, it_ref, rg_1, rg_2, z_2, z_3, dw_nil, dw_cons, b_abs, b_int, b_intb, b_stri, b_lent, b_lenr, b_lenl, b_tuple, b_list, b_all, b_any, b_sum, b_max, b_min, List.getElem?_cons_zero, List.getElem?_cons_succ, List.set_cons_zero, List.set_cons_succ, ex_some, ex_bl, ex_int, Bool.false_eq_true, if_false, if_true, Tgs.len, DL.Tgs.len]
        have ea : apS w i = some (ex w i) := by unfold apS; rw [ha, hb]; simp [hf]
        refine ⟨⟨_, put_same⟩, _, i2, _, i1, size_of (by simp), ?_⟩
        rw [c3, e2, cut_from]
        refine ⟨?_, ?_, _, put_same, ?_, ?_⟩
        · rw [List.length_take, wL_len]; exact size_of (by simp; omega)
        · simp only [List.length_append, List.length_take, List.length_drop, List.length_cons, List.length_nil, wL_len]
          exact size_of (by omega)
        · rw [List.length_map, sizeLine_eq]; omega
        · rw [put_put]
          have e5 : (wL w).take i ++ [D.int (b : Int), D.int (a : Int)] ++ (wL w).drop (i + 2) = wL (ex w i) := by
            rw [← ex_wL ha hb, List.append_assoc]; rfl
          rw [e5]
          have e6 : (stLs w i).map wD ++ [D.tup (wL (ex w i))] = (stLs w i ++ [ex w i]).map wD := by rw [List.map_append]; rfl
          rw [e6]
          refine second _ _ (by simp; omega) fun d3 => ⟨?_, d3, rfl⟩
          rw [stLs_snoc]
          unfold stL
          rw [ea, List.append_assoc]; rfl
      · have hf' : far a b = false := by simpa using hf
        simp only [hf', rE_var, rE_int, rE_str, rE_bl, rE_non, rE_glo, rE_bin, rE_neg, rE_cmp, rE_chn, rE_and, rE_or, rE_not, rE_ife, rE_idx, rE_slc, rE_rev, rE_tup, rE_lst, rE_dic, rE_call, rE_callk, rE_isI, rE_blt, rE_rng, rE_mth, rE_lc, rT_and, rT_or, rT_not, rT_cmp, rT_chn, rT_bl, rT_var, rT_call, rT_isI, rT_blt, rA_nil, rA_cons, rA_star, rTs_nil, rTs_one, rO_no, rO_yes, rI_of, rI_rng, rI_enm, rI_ez, rI_zip, rG_name, rG_tup, rG_sub, rGs_nil, rGs_cons, rS_asg, rS_par, rS_ex, rS_ret, rS_retN, rS_ife, rS_for, rS_whl, rS_never, rS_pass, rS_brk, rS_cont, rSs_nil, rSs_cons, o_add_i, o_sub_i, o_mul_i, o_fdiv_i, o_mod_i, o_pow_i, o_add_t, o_add_s, o_add_r, c_lt_i, c_le_i, c_gt_i, c_ge_i, i_tup, i_rl, i_ref, s_tup, s_rl, s_ref, r_tup, q_tup, q_rl, q_ref, l_rl, l_ref, t_append, t_extend, t_pop, m_append, m_extend, m_pop, st_ref, it_tup, it_rl, it_ref, rg_1, rg_2, z_2, z_3, dw_nil, dw_cons, b_abs, b_int, b_intb, b_stri, b_lent, b_lenr, b_lenl, b_tuple, b_list, b_all, b_any, b_sum, b_max, b_min, List.getElem?_cons_zero, List.getElem?_cons_succ, List.set_cons_zero, List.set_cons_succ, ex_some, ex_bl, ex_int, Bool.false_eq_true, if_false, if_true, Tgs.len, DL.Tgs.len]
        have ea : apS w i = none := by unfold apS; rw [ha, hb]; simp [hf']
        refine second _ _ (by omega) fun d3 => ⟨?_, d3, rfl⟩
        rw [stLs_snoc]
        unfold stL
        rw [ea]; rfl
  · obtain ⟨rfl, d3, rfl⟩ := hj
    refine ⟨trivial, ?_⟩
    simp only [rE_var, rE_int, rE_str, rE_bl, rE_non, rE_glo, rE_bin, rE_neg, rE_cmp, rE_chn, rE_and, rE_or, rE_not, rE_ife, rE_idx, rE_slc, rE_rev, rE_tup, rE_lst, rE_dic, rE_call, rE_callk, rE_isI, rE_blt, rE_rng, rE_mth, rE_lc, rT_and, rT_or, rT_not, rT_cmp, rT_chn, rT_bl, rT_var, rT_call, rT_isI, rT_blt, rA_nil, rA_cons, rA_star, rTs_nil, rTs_one, rO_no, rO_yes, rI_of, rI_rng, rI_enm, rI_ez, rI_zip, rG_name, rG_tup, rG_sub, rGs_nil, rGs_cons, rS_asg, rS_par, rS_ex, rS_ret, rS_retN, rS_ife, rS_for, rS_whl, rS_never, rS_pass, rS_brk, rS_cont, rSs_nil, rSs_cons, o_add_i, o_sub_i, o_mul_i, o_fdiv_i, o_mod_i, o_pow_i, o_add_t, o_add_s, o_add_r, c_lt_i, c_le_i, c_gt_i, c_ge_i, i_tup, i_rl, i_ref, s_tup, s_rl, s_ref, r_tup, q_tup, q_rl, q_ref, l_rl, l_ref, t_append, t_extend, t_pop, m_append, m_extend, m_pop, st_ref, it_tup, it_rl, it_ref, rg_1, rg_2, z_2, z_3, dw_nil, dw_cons, b_abs, b_int, b_intb, b_stri, b_lent, b_lenr, b_lenl, b_tuple, b_list, b_all, b_any, b_sum, b_max, b_min, List.getElem?_cons_zero, List.getElem?_cons_succ, List.set_cons_zero, List.set_cons_succ, ex_some, ex_bl, ex_int, Bool.false_eq_true, if_false, if_true, Tgs.len, DL.Tgs.len]
    have e : ((List.range (w.length - 1)).map fun (i : Nat) => D.int (i : Int)).length = w.length - 1 := by simp
    rw [e]
    have hne : ∀ v ∈ stLs w (w.length - 1), v ≠ [] := fun v hv => steps_ne v ((steps_perm w).mem_iff.mp hv)
    refine sorted_W put_same (.inr hne) fun q hq => ?_
    have nq : q ≠ p := fun e => by rw [e, put_same] at hq; cases hq
    exact ⟨_, Sub.refl _, _, put_same, _, Sub.refl _, ret_sub ((sub_new hp).trans (sub_new hq)) h⟩
end
end K43

set_option Elab.async false
set_option linter.all false
set_option maxRecDepth 100000
set_option maxHeartbeats 4000000
/-! K43H: the pot. -/
namespace K43
open PySem PySem.Spec PyProof.Rows L2 DL
section
variable {n : Nat} {η : Sto} {Q : DK}
/-- a pot of at most c takes at p -/
def Pot (η : Sto) (p : Addr) (c : Nat) : Prop := ∃ own mid cnt : Int, η p = some (.lst [.int own, .int mid, .int cnt]) ∧ 0 ≤ own ∧ 0 ≤ mid ∧ mid < 2 ^ 61 ∧ 0 ≤ cnt ∧ cnt ≤ c
/-- all but p is as it was -/
def Fr (p : Addr) (η η' : Sto) : Prop := ∀ a o, a ≠ p → η a = some o → η' a = some o
theorem Fr.refl {p : Addr} {η : Sto} : Fr p η η := fun _ _ _ h => h
theorem Fr.trans {p : Addr} {a b c : Sto} (h : Fr p a b) (h2 : Fr p b c) : Fr p a c := fun x o n e => h2 x o n (h x o n e)
theorem Fr.put {p : Addr} {η : Sto} {l : List D} : Fr p η (put η p (.lst l)) := fun a o n e => by rw [put_ne n]; exact e
theorem Fr.new {p q : Addr} {η : Sto} {o : MO} (h : η q = none) : Fr p η (DL.put η q o) := fun a o n e => by
  have : a ≠ q := fun x => by rw [x, h] at e; cases e
  rw [put_ne this]; exact e
theorem Pot.new {p q : Addr} {η : Sto} {o : MO} {c : Nat} (hp : Pot η p c) (h : η q = none) : Pot (put η q o) p c := by
  obtain ⟨a, b, c, e, r⟩ := hp
  have : p ≠ q := fun x => by rw [x, h] at e; cases e
  exact ⟨a, b, c, by rw [put_ne this]; exact e, r⟩
theorem Pot.mono {p : Addr} {η : Sto} {c c' : Nat} (hp : Pot η p c) (h : c ≤ c') : Pot η p c' := by
  obtain ⟨a, b, k, e, h1, h2, h3, h4, h5⟩ := hp
  exact ⟨a, b, k, e, h1, h2, h3, h4, by omega⟩
theorem sq_le {x k : Int} (h : 0 ≤ x) (h2 : x ≤ k) : 0 ≤ x * x ∧ x * x ≤ k * k := ⟨Int.mul_nonneg h h, Int.mul_le_mul h2 h2 h (by omega)⟩
theorem law_take {p : Addr} {u : Int} {c : Nat} (hp : Pot η p c) (hu : 0 < u) (hu2 : u ≤ 8000) (hc : c ≤ 1000000) (h : ∀ r η', 0 ≤ r → r < u → Pot η' p (c + 1) → Fr p η η' → Q (.int r) η') : CC (n + 1) (S "_law_take") [.ref p, .int u] η Q := by
  obtain ⟨own, mid, cnt, e, h1, h2, h3, h4, h5⟩ := hp
  refine u__law_take ?_
  simp only [o__law_take, rE_var, rE_int, rE_str, rE_bl, rE_non, rE_glo, rE_bin, rE_neg, rE_cmp, rE_chn, rE_and, rE_or, rE_not, rE_ife, rE_idx, rE_slc, rE_rev, rE_tup, rE_lst, rE_dic, rE_call, rE_callk, rE_isI, rE_blt, rE_rng, rE_mth, rE_lc, rT_and, rT_or, rT_not, rT_cmp, rT_chn, rT_bl, rT_var, rT_call, rT_isI, rT_blt, rA_nil, rA_cons, rA_star, rTs_nil, rTs_one, rO_no, rO_yes, rI_of, rI_rng, rI_enm, rI_ez, rI_zip, rG_name, rG_tup, rG_sub, rGs_nil, rGs_cons, rS_asg, rS_par, rS_ex, rS_ret, rS_retN, rS_ife, rS_for, rS_whl, rS_never, rS_pass, rS_brk, rS_cont, rSs_nil, rSs_cons, o_add_i, o_sub_i, o_mul_i, o_fdiv_i, o_mod_i, o_pow_i, o_add_t, o_add_s, o_add_r, c_lt_i, c_le_i, c_gt_i, c_ge_i, i_tup, i_rl, i_ref, s_tup, s_rl, s_ref, r_tup, q_tup, q_rl, q_ref, l_rl, l_ref, t_append, t_extend, t_pop, m_append, m_extend, m_pop, st_ref, it_tup, it_rl, it_ref, rg_1, rg_2, z_2, z_3, dw_nil, dw_cons, b_abs, b_int, b_intb, b_stri, b_lent, b_lenr, b_lenl, b_tuple, b_list, b_all, b_any, b_sum, b_max, b_min, List.getElem?_cons_zero, List.getElem?_cons_succ, List.set_cons_zero, List.set_cons_succ, ex_some, ex_bl, ex_int, Bool.false_eq_true, if_false, if_true, Tgs.len, DL.Tgs.len]
  refine ⟨_, _, e, rfl, ?_⟩
  simp only [rE_var, rE_int, rE_str, rE_bl, rE_non, rE_glo, rE_bin, rE_neg, rE_cmp, rE_chn, rE_and, rE_or, rE_not, rE_ife, rE_idx, rE_slc, rE_rev, rE_tup, rE_lst, rE_dic, rE_call, rE_callk, rE_isI, rE_blt, rE_rng, rE_mth, rE_lc, rT_and, rT_or, rT_not, rT_cmp, rT_chn, rT_bl, rT_var, rT_call, rT_isI, rT_blt, rA_nil, rA_cons, rA_star, rTs_nil, rTs_one, rO_no, rO_yes, rI_of, rI_rng, rI_enm, rI_ez, rI_zip, rG_name, rG_tup, rG_sub, rGs_nil, rGs_cons, rS_asg, rS_par, rS_ex, rS_ret, rS_retN, rS_ife, rS_for, rS_whl, rS_never, rS_pass, rS_brk, rS_cont, rSs_nil, rSs_cons, o_add_i, o_sub_i, o_mul_i, o_fdiv_i, o_mod_i, o_pow_i, o_add_t, o_add_s, o_add_r, c_lt_i, c_le_i, c_gt_i, c_ge_i, i_tup, i_rl, i_ref, s_tup, s_rl, s_ref, r_tup, q_tup, q_rl, q_ref, l_rl, l_ref, t_append, t_extend, t_pop, m_append, m_extend, m_pop, st_ref, it_tup, it_rl, it_ref, rg_1, rg_2, z_2, z_3, dw_nil, dw_cons, b_abs, b_int, b_intb, b_stri, b_lent, b_lenr, b_lenl, b_tuple, b_list, b_all, b_any, b_sum, b_max, b_min, List.getElem?_cons_zero, List.getElem?_cons_succ, List.set_cons_zero, List.set_cons_succ, ex_some, ex_bl, ex_int, Bool.false_eq_true, if_false, if_true, Tgs.len, DL.Tgs.len]
  by_cases ho : 0 < own
  · simp only [ho, decide_true, rE_var, rE_int, rE_str, rE_bl, rE_non, rE_glo, rE_bin, rE_neg, rE_cmp, rE_chn, rE_and, rE_or, rE_not, rE_ife, rE_idx, rE_slc, rE_rev, rE_tup, rE_lst, rE_dic, rE_call, rE_callk, rE_isI, rE_blt, rE_rng, rE_mth, rE_lc, rT_and, rT_or, rT_not, rT_cmp, rT_chn, rT_bl, rT_var, rT_call, rT_isI, rT_blt, rA_nil, rA_cons, rA_star, rTs_nil, rTs_one, rO_no, rO_yes, rI_of, rI_rng, rI_enm, rI_ez, rI_zip, rG_name, rG_tup, rG_sub, rGs_nil, rGs_cons, rS_asg, rS_par, rS_ex, rS_ret, rS_retN, rS_ife, rS_for, rS_whl, rS_never, rS_pass, rS_brk, rS_cont, rSs_nil, rSs_cons, o_add_i, o_sub_i, o_mul_i, o_fdiv_i, o_mod_i, o_pow_i, o_add_t, o_add_s, o_add_r, c_lt_i, c_le_i, c_gt_i, c_ge_i, i_tup, i_rl, i_ref, s_tup, s_rl, s_ref, r_tup, q_tup, q_rl, q_ref, l_rl, l_ref, t_append, t_extend, t_pop, m_append, m_extend, m_pop, st_ref, it_tup, it_rl, it_ref, rg_1, rg_2, z_2, z_3, dw_nil, dw_cons, b_abs, b_int, b_intb, b_stri, b_lent, b_lenr, b_lenl, b_tuple, b_list, b_all, b_any, b_sum, b_max, b_min, List.getElem?_cons_zero, List.getElem?_cons_succ, List.set_cons_zero, List.set_cons_succ, ex_some, ex_bl, ex_int, Bool.false_eq_true, if_false, if_true, Tgs.len, DL.Tgs.len]
    refine ⟨_, _, e, rfl, ?_⟩
    try simp only [rE_var, rE_int, rE_str, rE_bl, rE_non, rE_glo, rE_bin, rE_neg, rE_cmp, rE_chn, rE_and, rE_or, rE_not, rE_ife, rE_idx, rE_slc, rE_rev, rE_tup, rE_lst, rE_dic, rE_call, rE_callk, rE_isI, rE_blt, rE_rng, rE_mth, rE_lc, rT_and, rT_or, rT_not, rT_cmp, rT_chn, rT_bl, rT_var, rT_call, rT_isI, rT_blt, rA_nil, rA_cons, rA_star, rTs_nil, rTs_one, rO_no, rO_yes, rI_of, rI_rng, rI_enm, rI_ez, rI_zip, rG_name, rG_tup, rG_sub, rGs_nil, rGs_cons, rS_asg, rS_par, rS_ex, rS_ret, rS_retN, rS_ife, rS_for, rS_whl, rS_never, rS_pass, rS_brk, rS_cont, rSs_nil, rSs_cons, o_add_i, o_sub_i, o_mul_i, o_fdiv_i, o_mod_i, o_pow_i, o_add_t, o_add_s, o_add_r, c_lt_i, c_le_i, c_gt_i, c_ge_i, i_tup, i_rl, i_ref, s_tup, s_rl, s_ref, r_tup, q_tup, q_rl, q_ref, l_rl, l_ref, t_append, t_extend, t_pop, m_append, m_extend, m_pop, st_ref, it_tup, it_rl, it_ref, rg_1, rg_2, z_2, z_3, dw_nil, dw_cons, b_abs, b_int, b_intb, b_stri, b_lent, b_lenr, b_lenl, b_tuple, b_list, b_all, b_any, b_sum, b_max, b_min, List.getElem?_cons_zero, List.getElem?_cons_succ, List.set_cons_zero, List.set_cons_succ, ex_some, ex_bl, ex_int, Bool.false_eq_true, if_false, if_true, Tgs.len, DL.Tgs.len]
    refine ⟨_, Sub.refl _, ?_⟩
    try simp only [rE_var, rE_int, rE_str, rE_bl, rE_non, rE_glo, rE_bin, rE_neg, rE_cmp, rE_chn, rE_and, rE_or, rE_not, rE_ife, rE_idx, rE_slc, rE_rev, rE_tup, rE_lst, rE_dic, rE_call, rE_callk, rE_isI, rE_blt, rE_rng, rE_mth, rE_lc, rT_and, rT_or, rT_not, rT_cmp, rT_chn, rT_bl, rT_var, rT_call, rT_isI, rT_blt, rA_nil, rA_cons, rA_star, rTs_nil, rTs_one, rO_no, rO_yes, rI_of, rI_rng, rI_enm, rI_ez, rI_zip, rG_name, rG_tup, rG_sub, rGs_nil, rGs_cons, rS_asg, rS_par, rS_ex, rS_ret, rS_retN, rS_ife, rS_for, rS_whl, rS_never, rS_pass, rS_brk, rS_cont, rSs_nil, rSs_cons, o_add_i, o_sub_i, o_mul_i, o_fdiv_i, o_mod_i, o_pow_i, o_add_t, o_add_s, o_add_r, c_lt_i, c_le_i, c_gt_i, c_ge_i, i_tup, i_rl, i_ref, s_tup, s_rl, s_ref, r_tup, q_tup, q_rl, q_ref, l_rl, l_ref, t_append, t_extend, t_pop, m_append, m_extend, m_pop, st_ref, it_tup, it_rl, it_ref, rg_1, rg_2, z_2, z_3, dw_nil, dw_cons, b_abs, b_int, b_intb, b_stri, b_lent, b_lenr, b_lenl, b_tuple, b_list, b_all, b_any, b_sum, b_max, b_min, List.getElem?_cons_zero, List.getElem?_cons_succ, List.set_cons_zero, List.set_cons_succ, ex_some, ex_bl, ex_int, Bool.false_eq_true, if_false, if_true, Tgs.len, DL.Tgs.len]
    refine ⟨hu, _, _, e, rfl, ?_⟩
    try simp only [rE_var, rE_int, rE_str, rE_bl, rE_non, rE_glo, rE_bin, rE_neg, rE_cmp, rE_chn, rE_and, rE_or, rE_not, rE_ife, rE_idx, rE_slc, rE_rev, rE_tup, rE_lst, rE_dic, rE_call, rE_callk, rE_isI, rE_blt, rE_rng, rE_mth, rE_lc, rT_and, rT_or, rT_not, rT_cmp, rT_chn, rT_bl, rT_var, rT_call, rT_isI, rT_blt, rA_nil, rA_cons, rA_star, rTs_nil, rTs_one, rO_no, rO_yes, rI_of, rI_rng, rI_enm, rI_ez, rI_zip, rG_name, rG_tup, rG_sub, rGs_nil, rGs_cons, rS_asg, rS_par, rS_ex, rS_ret, rS_retN, rS_ife, rS_for, rS_whl, rS_never, rS_pass, rS_brk, rS_cont, rSs_nil, rSs_cons, o_add_i, o_sub_i, o_mul_i, o_fdiv_i, o_mod_i, o_pow_i, o_add_t, o_add_s, o_add_r, c_lt_i, c_le_i, c_gt_i, c_ge_i, i_tup, i_rl, i_ref, s_tup, s_rl, s_ref, r_tup, q_tup, q_rl, q_ref, l_rl, l_ref, t_append, t_extend, t_pop, m_append, m_extend, m_pop, st_ref, it_tup, it_rl, it_ref, rg_1, rg_2, z_2, z_3, dw_nil, dw_cons, b_abs, b_int, b_intb, b_stri, b_lent, b_lenr, b_lenl, b_tuple, b_list, b_all, b_any, b_sum, b_max, b_min, List.getElem?_cons_zero, List.getElem?_cons_succ, List.set_cons_zero, List.set_cons_succ, ex_some, ex_bl, ex_int, Bool.false_eq_true, if_false, if_true, Tgs.len, DL.Tgs.len]
    refine ⟨⟨hu, ?_⟩, _, _, e, rfl, ?_⟩
    · have := Nat.log2_le_self u.natAbs; omega
    · refine ret_of (h _ _ (Int.emod_nonneg _ (by omega)) (Int.emod_lt_of_pos _ hu) ⟨own / u, mid, cnt, put_same, Int.ediv_nonneg h1 (by omega), h2, h3, h4, by omega⟩ Fr.put)
  · simp only [ho, decide_false, rE_var, rE_int, rE_str, rE_bl, rE_non, rE_glo, rE_bin, rE_neg, rE_cmp, rE_chn, rE_and, rE_or, rE_not, rE_ife, rE_idx, rE_slc, rE_rev, rE_tup, rE_lst, rE_dic, rE_call, rE_callk, rE_isI, rE_blt, rE_rng, rE_mth, rE_lc, rT_and, rT_or, rT_not, rT_cmp, rT_chn, rT_bl, rT_var, rT_call, rT_isI, rT_blt, rA_nil, rA_cons, rA_star, rTs_nil, rTs_one, rO_no, rO_yes, rI_of, rI_rng, rI_enm, rI_ez, rI_zip, rG_name, rG_tup, rG_sub, rGs_nil, rGs_cons, rS_asg, rS_par, rS_ex, rS_ret, rS_retN, rS_ife, rS_for, rS_whl, rS_never, rS_pass, rS_brk, rS_cont, rSs_nil, rSs_cons, o_add_i, o_sub_i, o_mul_i, o_fdiv_i, o_mod_i, o_pow_i, o_add_t, o_add_s, o_add_r, c_lt_i, c_le_i, c_gt_i, c_ge_i, i_tup, i_rl, i_ref, s_tup, s_rl, s_ref, r_tup, q_tup, q_rl, q_ref, l_rl, l_ref, t_append, t_extend, t_pop, m_append, m_extend, m_pop, st_ref, it_tup, it_rl, it_ref, rg_1, rg_2, z_2, z_3, dw_nil, dw_cons, b_abs, b_int, b_intb, b_stri, b_lent, b_lenr, b_lenl, b_tuple, b_list, b_all, b_any, b_sum, b_max, b_min, List.getElem?_cons_zero, List.getElem?_cons_succ, List.set_cons_zero, List.set_cons_succ, ex_some, ex_bl, ex_int, Bool.false_eq_true, if_false, if_true, Tgs.len, DL.Tgs.len]
    refine ⟨_, _, e, rfl, ?_⟩
    try simp only [rE_var, rE_int, rE_str, rE_bl, rE_non, rE_glo, rE_bin, rE_neg, rE_cmp, rE_chn, rE_and, rE_or, rE_not, rE_ife, rE_idx, rE_slc, rE_rev, rE_tup, rE_lst, rE_dic, rE_call, rE_callk, rE_isI, rE_blt, rE_rng, rE_mth, rE_lc, rT_and, rT_or, rT_not, rT_cmp, rT_chn, rT_bl, rT_var, rT_call, rT_isI, rT_blt, rA_nil, rA_cons, rA_star, rTs_nil, rTs_one, rO_no, rO_yes, rI_of, rI_rng, rI_enm, rI_ez, rI_zip, rG_name, rG_tup, rG_sub, rGs_nil, rGs_cons, rS_asg, rS_par, rS_ex, rS_ret, rS_retN, rS_ife, rS_for, rS_whl, rS_never, rS_pass, rS_brk, rS_cont, rSs_nil, rSs_cons, o_add_i, o_sub_i, o_mul_i, o_fdiv_i, o_mod_i, o_pow_i, o_add_t, o_add_s, o_add_r, c_lt_i, c_le_i, c_gt_i, c_ge_i, i_tup, i_rl, i_ref, s_tup, s_rl, s_ref, r_tup, q_tup, q_rl, q_ref, l_rl, l_ref, t_append, t_extend, t_pop, m_append, m_extend, m_pop, st_ref, it_tup, it_rl, it_ref, rg_1, rg_2, z_2, z_3, dw_nil, dw_cons, b_abs, b_int, b_intb, b_stri, b_lent, b_lenr, b_lenl, b_tuple, b_list, b_all, b_any, b_sum, b_max, b_min, List.getElem?_cons_zero, List.getElem?_cons_succ, List.set_cons_zero, List.set_cons_succ, ex_some, ex_bl, ex_int, Bool.false_eq_true, if_false, if_true, Tgs.len, DL.Tgs.len]
    refine ⟨_, _, e, rfl, ?_⟩
    have e2 : ([D.int own, D.int mid, D.int cnt]).set (Int.toNat 2) (.int (cnt + 1)) = [.int own, .int mid, .int (cnt + 1)] := rfl
    rw [e2]
    generalize hη : put η p (.lst [.int own, .int mid, .int (cnt + 1)]) = η1
    have e1 : η1 p = some (.lst [.int own, .int mid, .int (cnt + 1)]) := by rw [← hη]; exact put_same
    refine ⟨size_of (by decide), fun q hq => ?_⟩
    have nq : p ≠ q := fun x => by rw [x, hq] at e1; cases e1
    generalize hη2 : put η1 q (.lst [.int 2147483647, .int 2147483629, .int 2147483587, .int 2147483579, .int 2147483563]) = η2
    have e3 : η2 p = some (.lst [.int own, .int mid, .int (cnt + 1)]) := by rw [← hη2, put_ne nq]; exact e1
    have e4 : η2 q = some (.lst [.int 2147483647, .int 2147483629, .int 2147483587, .int 2147483579, .int 2147483563]) := by rw [← hη2]; exact put_same
    refine ⟨_, _, e3, rfl, ?_⟩
    try simp only [rE_var, rE_int, rE_str, rE_bl, rE_non, rE_glo, rE_bin, rE_neg, rE_cmp, rE_chn, rE_and, rE_or, rE_not, rE_ife, rE_idx, rE_slc, rE_rev, rE_tup, rE_lst, rE_dic, rE_call, rE_callk, rE_isI, rE_blt, rE_rng, rE_mth, rE_lc, rT_and, rT_or, rT_not, rT_cmp, rT_chn, rT_bl, rT_var, rT_call, rT_isI, rT_blt, rA_nil, rA_cons, rA_star, rTs_nil, rTs_one, rO_no, rO_yes, rI_of, rI_rng, rI_enm, rI_ez, rI_zip, rG_name, rG_tup, rG_sub, rGs_nil, rGs_cons, rS_asg, rS_par, rS_ex, rS_ret, rS_retN, rS_ife, rS_for, rS_whl, rS_never, rS_pass, rS_brk, rS_cont, rSs_nil, rSs_cons, o_add_i, o_sub_i, o_mul_i, o_fdiv_i, o_mod_i, o_pow_i, o_add_t, o_add_s, o_add_r, c_lt_i, c_le_i, c_gt_i, c_ge_i, i_tup, i_rl, i_ref, s_tup, s_rl, s_ref, r_tup, q_tup, q_rl, q_ref, l_rl, l_ref, t_append, t_extend, t_pop, m_append, m_extend, m_pop, st_ref, it_tup, it_rl, it_ref, rg_1, rg_2, z_2, z_3, dw_nil, dw_cons, b_abs, b_int, b_intb, b_stri, b_lent, b_lenr, b_lenl, b_tuple, b_list, b_all, b_any, b_sum, b_max, b_min, List.getElem?_cons_zero, List.getElem?_cons_succ, List.set_cons_zero, List.set_cons_succ, ex_some, ex_bl, ex_int, Bool.false_eq_true, if_false, if_true, Tgs.len, DL.Tgs.len]
    refine ⟨_, Sub.refl _, ?_⟩
    try simp only [rE_var, rE_int, rE_str, rE_bl, rE_non, rE_glo, rE_bin, rE_neg, rE_cmp, rE_chn, rE_and, rE_or, rE_not, rE_ife, rE_idx, rE_slc, rE_rev, rE_tup, rE_lst, rE_dic, rE_call, rE_callk, rE_isI, rE_blt, rE_rng, rE_mth, rE_lc, rT_and, rT_or, rT_not, rT_cmp, rT_chn, rT_bl, rT_var, rT_call, rT_isI, rT_blt, rA_nil, rA_cons, rA_star, rTs_nil, rTs_one, rO_no, rO_yes, rI_of, rI_rng, rI_enm, rI_ez, rI_zip, rG_name, rG_tup, rG_sub, rGs_nil, rGs_cons, rS_asg, rS_par, rS_ex, rS_ret, rS_retN, rS_ife, rS_for, rS_whl, rS_never, rS_pass, rS_brk, rS_cont, rSs_nil, rSs_cons, o_add_i, o_sub_i, o_mul_i, o_fdiv_i, o_mod_i, o_pow_i, o_add_t, o_add_s, o_add_r, c_lt_i, c_le_i, c_gt_i, c_ge_i, i_tup, i_rl, i_ref, s_tup, s_rl, s_ref, r_tup, q_tup, q_rl, q_ref, l_rl, l_ref, t_append, t_extend, t_pop, m_append, m_extend, m_pop, st_ref, it_tup, it_rl, it_ref, rg_1, rg_2, z_2, z_3, dw_nil, dw_cons, b_abs, b_int, b_intb, b_stri, b_lent, b_lenr, b_lenl, b_tuple, b_list, b_all, b_any, b_sum, b_max, b_min, List.getElem?_cons_zero, List.getElem?_cons_succ, List.set_cons_zero, List.set_cons_succ, ex_some, ex_bl, ex_int, Bool.false_eq_true, if_false, if_true, Tgs.len, DL.Tgs.len]
    refine ⟨by decide, ?_⟩
    have hpr : ∃ pr : Int, atI [D.int 2147483647, .int 2147483629, .int 2147483587, .int 2147483579, .int 2147483563] ((cnt + 1) % 5) = some (.int pr) ∧ 0 < pr ∧ pr ≤ 2147483647 := by
      have hm := Int.emod_nonneg (cnt + 1) (b := 5) (by decide)
      have hl := Int.emod_lt_of_pos (cnt + 1) (b := 5) (by decide)
      generalize (cnt + 1) % 5 = k at *
      have : k = 0 ∨ k = 1 ∨ k = 2 ∨ k = 3 ∨ k = 4 := by omega
      rcases this with x | x | x | x | x <;> subst x <;> exact ⟨_, rfl, by decide, by decide⟩
    obtain ⟨pr, ep, hp0, hp1⟩ := hpr
    refine ⟨_, _, e4, ep, ?_⟩
    try simp only [rE_var, rE_int, rE_str, rE_bl, rE_non, rE_glo, rE_bin, rE_neg, rE_cmp, rE_chn, rE_and, rE_or, rE_not, rE_ife, rE_idx, rE_slc, rE_rev, rE_tup, rE_lst, rE_dic, rE_call, rE_callk, rE_isI, rE_blt, rE_rng, rE_mth, rE_lc, rT_and, rT_or, rT_not, rT_cmp, rT_chn, rT_bl, rT_var, rT_call, rT_isI, rT_blt, rA_nil, rA_cons, rA_star, rTs_nil, rTs_one, rO_no, rO_yes, rI_of, rI_rng, rI_enm, rI_ez, rI_zip, rG_name, rG_tup, rG_sub, rGs_nil, rGs_cons, rS_asg, rS_par, rS_ex, rS_ret, rS_retN, rS_ife, rS_for, rS_whl, rS_never, rS_pass, rS_brk, rS_cont, rSs_nil, rSs_cons, o_add_i, o_sub_i, o_mul_i, o_fdiv_i, o_mod_i, o_pow_i, o_add_t, o_add_s, o_add_r, c_lt_i, c_le_i, c_gt_i, c_ge_i, i_tup, i_rl, i_ref, s_tup, s_rl, s_ref, r_tup, q_tup, q_rl, q_ref, l_rl, l_ref, t_append, t_extend, t_pop, m_append, m_extend, m_pop, st_ref, it_tup, it_rl, it_ref, rg_1, rg_2, z_2, z_3, dw_nil, dw_cons, b_abs, b_int, b_intb, b_stri, b_lent, b_lenr, b_lenl, b_tuple, b_list, b_all, b_any, b_sum, b_max, b_min, List.getElem?_cons_zero, List.getElem?_cons_succ, List.set_cons_zero, List.set_cons_succ, ex_some, ex_bl, ex_int, Bool.false_eq_true, if_false, if_true, Tgs.len, DL.Tgs.len]
    refine ⟨_, _, e3, rfl, _, _, e3, rfl, ?_⟩
    try simp only [rE_var, rE_int, rE_str, rE_bl, rE_non, rE_glo, rE_bin, rE_neg, rE_cmp, rE_chn, rE_and, rE_or, rE_not, rE_ife, rE_idx, rE_slc, rE_rev, rE_tup, rE_lst, rE_dic, rE_call, rE_callk, rE_isI, rE_blt, rE_rng, rE_mth, rE_lc, rT_and, rT_or, rT_not, rT_cmp, rT_chn, rT_bl, rT_var, rT_call, rT_isI, rT_blt, rA_nil, rA_cons, rA_star, rTs_nil, rTs_one, rO_no, rO_yes, rI_of, rI_rng, rI_enm, rI_ez, rI_zip, rG_name, rG_tup, rG_sub, rGs_nil, rGs_cons, rS_asg, rS_par, rS_ex, rS_ret, rS_retN, rS_ife, rS_for, rS_whl, rS_never, rS_pass, rS_brk, rS_cont, rSs_nil, rSs_cons, o_add_i, o_sub_i, o_mul_i, o_fdiv_i, o_mod_i, o_pow_i, o_add_t, o_add_s, o_add_r, c_lt_i, c_le_i, c_gt_i, c_ge_i, i_tup, i_rl, i_ref, s_tup, s_rl, s_ref, r_tup, q_tup, q_rl, q_ref, l_rl, l_ref, t_append, t_extend, t_pop, m_append, m_extend, m_pop, st_ref, it_tup, it_rl, it_ref, rg_1, rg_2, z_2, z_3, dw_nil, dw_cons, b_abs, b_int, b_intb, b_stri, b_lent, b_lenr, b_lenl, b_tuple, b_list, b_all, b_any, b_sum, b_max, b_min, List.getElem?_cons_zero, List.getElem?_cons_succ, List.set_cons_zero, List.set_cons_succ, ex_some, ex_bl, ex_int, Bool.false_eq_true, if_false, if_true, Tgs.len, DL.Tgs.len]
    refine ⟨mul_l (by decide), _, _, e3, rfl, ?_⟩
    try simp only [rE_var, rE_int, rE_str, rE_bl, rE_non, rE_glo, rE_bin, rE_neg, rE_cmp, rE_chn, rE_and, rE_or, rE_not, rE_ife, rE_idx, rE_slc, rE_rev, rE_tup, rE_lst, rE_dic, rE_call, rE_callk, rE_isI, rE_blt, rE_rng, rE_mth, rE_lc, rT_and, rT_or, rT_not, rT_cmp, rT_chn, rT_bl, rT_var, rT_call, rT_isI, rT_blt, rA_nil, rA_cons, rA_star, rTs_nil, rTs_one, rO_no, rO_yes, rI_of, rI_rng, rI_enm, rI_ez, rI_zip, rG_name, rG_tup, rG_sub, rGs_nil, rGs_cons, rS_asg, rS_par, rS_ex, rS_ret, rS_retN, rS_ife, rS_for, rS_whl, rS_never, rS_pass, rS_brk, rS_cont, rSs_nil, rSs_cons, o_add_i, o_sub_i, o_mul_i, o_fdiv_i, o_mod_i, o_pow_i, o_add_t, o_add_s, o_add_r, c_lt_i, c_le_i, c_gt_i, c_ge_i, i_tup, i_rl, i_ref, s_tup, s_rl, s_ref, r_tup, q_tup, q_rl, q_ref, l_rl, l_ref, t_append, t_extend, t_pop, m_append, m_extend, m_pop, st_ref, it_tup, it_rl, it_ref, rg_1, rg_2, z_2, z_3, dw_nil, dw_cons, b_abs, b_int, b_intb, b_stri, b_lent, b_lenr, b_lenl, b_tuple, b_list, b_all, b_any, b_sum, b_max, b_min, List.getElem?_cons_zero, List.getElem?_cons_succ, List.set_cons_zero, List.set_cons_succ, ex_some, ex_bl, ex_int, Bool.false_eq_true, if_false, if_true, Tgs.len, DL.Tgs.len]
    have sq := sq_le (x := cnt + 1) (k := 1000001) (by omega) (by omega)
    have hcnt : (cnt + 1).natAbs < 2 ^ 63 := by omega
    refine ⟨mul_r hcnt, _, Sub.refl _, ?_⟩
    try simp only [rE_var, rE_int, rE_str, rE_bl, rE_non, rE_glo, rE_bin, rE_neg, rE_cmp, rE_chn, rE_and, rE_or, rE_not, rE_ife, rE_idx, rE_slc, rE_rev, rE_tup, rE_lst, rE_dic, rE_call, rE_callk, rE_isI, rE_blt, rE_rng, rE_mth, rE_lc, rT_and, rT_or, rT_not, rT_cmp, rT_chn, rT_bl, rT_var, rT_call, rT_isI, rT_blt, rA_nil, rA_cons, rA_star, rTs_nil, rTs_one, rO_no, rO_yes, rI_of, rI_rng, rI_enm, rI_ez, rI_zip, rG_name, rG_tup, rG_sub, rGs_nil, rGs_cons, rS_asg, rS_par, rS_ex, rS_ret, rS_retN, rS_ife, rS_for, rS_whl, rS_never, rS_pass, rS_brk, rS_cont, rSs_nil, rSs_cons, o_add_i, o_sub_i, o_mul_i, o_fdiv_i, o_mod_i, o_pow_i, o_add_t, o_add_s, o_add_r, c_lt_i, c_le_i, c_gt_i, c_ge_i, i_tup, i_rl, i_ref, s_tup, s_rl, s_ref, r_tup, q_tup, q_rl, q_ref, l_rl, l_ref, t_append, t_extend, t_pop, m_append, m_extend, m_pop, st_ref, it_tup, it_rl, it_ref, rg_1, rg_2, z_2, z_3, dw_nil, dw_cons, b_abs, b_int, b_intb, b_stri, b_lent, b_lenr, b_lenl, b_tuple, b_list, b_all, b_any, b_sum, b_max, b_min, List.getElem?_cons_zero, List.getElem?_cons_succ, List.set_cons_zero, List.set_cons_succ, ex_some, ex_bl, ex_int, Bool.false_eq_true, if_false, if_true, Tgs.len, DL.Tgs.len]
    have hx : (mid + 98978 * (cnt + 1) * (cnt + 1) + 1655).natAbs < 2 ^ 63 := by
      rw [Int.mul_assoc]
      generalize (cnt + 1) * (cnt + 1) = z at *
      omega
    generalize mid + 98978 * (cnt + 1) * (cnt + 1) + 1655 = x at *
    refine ⟨by decide, ?_, _, Sub.refl _, ?_⟩
    · have b1 := bits_le x
      have b2 : x.natAbs.log2 ≤ 63 := by
        by_cases z : x.natAbs = 0
        · rw [z]; decide
        · exact Nat.le_of_lt ((Nat.log2_lt z).mpr hx)
      omega
    have hb0 := Int.emod_nonneg (x ^ Int.toNat 3) (b := pr) (by omega)
    have hb1 := Int.emod_lt_of_pos (x ^ Int.toNat 3) hp0
    try simp only [rE_var, rE_int, rE_str, rE_bl, rE_non, rE_glo, rE_bin, rE_neg, rE_cmp, rE_chn, rE_and, rE_or, rE_not, rE_ife, rE_idx, rE_slc, rE_rev, rE_tup, rE_lst, rE_dic, rE_call, rE_callk, rE_isI, rE_blt, rE_rng, rE_mth, rE_lc, rT_and, rT_or, rT_not, rT_cmp, rT_chn, rT_bl, rT_var, rT_call, rT_isI, rT_blt, rA_nil, rA_cons, rA_star, rTs_nil, rTs_one, rO_no, rO_yes, rI_of, rI_rng, rI_enm, rI_ez, rI_zip, rG_name, rG_tup, rG_sub, rGs_nil, rGs_cons, rS_asg, rS_par, rS_ex, rS_ret, rS_retN, rS_ife, rS_for, rS_whl, rS_never, rS_pass, rS_brk, rS_cont, rSs_nil, rSs_cons, o_add_i, o_sub_i, o_mul_i, o_fdiv_i, o_mod_i, o_pow_i, o_add_t, o_add_s, o_add_r, c_lt_i, c_le_i, c_gt_i, c_ge_i, i_tup, i_rl, i_ref, s_tup, s_rl, s_ref, r_tup, q_tup, q_rl, q_ref, l_rl, l_ref, t_append, t_extend, t_pop, m_append, m_extend, m_pop, st_ref, it_tup, it_rl, it_ref, rg_1, rg_2, z_2, z_3, dw_nil, dw_cons, b_abs, b_int, b_intb, b_stri, b_lent, b_lenr, b_lenl, b_tuple, b_list, b_all, b_any, b_sum, b_max, b_min, List.getElem?_cons_zero, List.getElem?_cons_succ, List.set_cons_zero, List.set_cons_succ, ex_some, ex_bl, ex_int, Bool.false_eq_true, if_false, if_true, Tgs.len, DL.Tgs.len]
    refine ⟨hp0, _, Sub.refl _, ?_⟩
    generalize x ^ Int.toNat 3 % pr = y at *
    try simp only [rE_var, rE_int, rE_str, rE_bl, rE_non, rE_glo, rE_bin, rE_neg, rE_cmp, rE_chn, rE_and, rE_or, rE_not, rE_ife, rE_idx, rE_slc, rE_rev, rE_tup, rE_lst, rE_dic, rE_call, rE_callk, rE_isI, rE_blt, rE_rng, rE_mth, rE_lc, rT_and, rT_or, rT_not, rT_cmp, rT_chn, rT_bl, rT_var, rT_call, rT_isI, rT_blt, rA_nil, rA_cons, rA_star, rTs_nil, rTs_one, rO_no, rO_yes, rI_of, rI_rng, rI_enm, rI_ez, rI_zip, rG_name, rG_tup, rG_sub, rGs_nil, rGs_cons, rS_asg, rS_par, rS_ex, rS_ret, rS_retN, rS_ife, rS_for, rS_whl, rS_never, rS_pass, rS_brk, rS_cont, rSs_nil, rSs_cons, o_add_i, o_sub_i, o_mul_i, o_fdiv_i, o_mod_i, o_pow_i, o_add_t, o_add_s, o_add_r, c_lt_i, c_le_i, c_gt_i, c_ge_i, i_tup, i_rl, i_ref, s_tup, s_rl, s_ref, r_tup, q_tup, q_rl, q_ref, l_rl, l_ref, t_append, t_extend, t_pop, m_append, m_extend, m_pop, st_ref, it_tup, it_rl, it_ref, rg_1, rg_2, z_2, z_3, dw_nil, dw_cons, b_abs, b_int, b_intb, b_stri, b_lent, b_lenr, b_lenl, b_tuple, b_list, b_all, b_any, b_sum, b_max, b_min, List.getElem?_cons_zero, List.getElem?_cons_succ, List.set_cons_zero, List.set_cons_succ, ex_some, ex_bl, ex_int, Bool.false_eq_true, if_false, if_true, Tgs.len, DL.Tgs.len]
    refine ⟨by decide, _, _, e3, rfl, ?_⟩
    try simp only [rE_var, rE_int, rE_str, rE_bl, rE_non, rE_glo, rE_bin, rE_neg, rE_cmp, rE_chn, rE_and, rE_or, rE_not, rE_ife, rE_idx, rE_slc, rE_rev, rE_tup, rE_lst, rE_dic, rE_call, rE_callk, rE_isI, rE_blt, rE_rng, rE_mth, rE_lc, rT_and, rT_or, rT_not, rT_cmp, rT_chn, rT_bl, rT_var, rT_call, rT_isI, rT_blt, rA_nil, rA_cons, rA_star, rTs_nil, rTs_one, rO_no, rO_yes, rI_of, rI_rng, rI_enm, rI_ez, rI_zip, rG_name, rG_tup, rG_sub, rGs_nil, rGs_cons, rS_asg, rS_par, rS_ex, rS_ret, rS_retN, rS_ife, rS_for, rS_whl, rS_never, rS_pass, rS_brk, rS_cont, rSs_nil, rSs_cons, o_add_i, o_sub_i, o_mul_i, o_fdiv_i, o_mod_i, o_pow_i, o_add_t, o_add_s, o_add_r, c_lt_i, c_le_i, c_gt_i, c_ge_i, i_tup, i_rl, i_ref, s_tup, s_rl, s_ref, r_tup, q_tup, q_rl, q_ref, l_rl, l_ref, t_append, t_extend, t_pop, m_append, m_extend, m_pop, st_ref, it_tup, it_rl, it_ref, rg_1, rg_2, z_2, z_3, dw_nil, dw_cons, b_abs, b_int, b_intb, b_stri, b_lent, b_lenr, b_lenl, b_tuple, b_list, b_all, b_any, b_sum, b_max, b_min, List.getElem?_cons_zero, List.getElem?_cons_succ, List.set_cons_zero, List.set_cons_succ, ex_some, ex_bl, ex_int, Bool.false_eq_true, if_false, if_true, Tgs.len, DL.Tgs.len]
    refine ⟨mul_l (by decide), mul_l (by omega), _, Sub.refl _, ?_⟩
    try simp only [rE_var, rE_int, rE_str, rE_bl, rE_non, rE_glo, rE_bin, rE_neg, rE_cmp, rE_chn, rE_and, rE_or, rE_not, rE_ife, rE_idx, rE_slc, rE_rev, rE_tup, rE_lst, rE_dic, rE_call, rE_callk, rE_isI, rE_blt, rE_rng, rE_mth, rE_lc, rT_and, rT_or, rT_not, rT_cmp, rT_chn, rT_bl, rT_var, rT_call, rT_isI, rT_blt, rA_nil, rA_cons, rA_star, rTs_nil, rTs_one, rO_no, rO_yes, rI_of, rI_rng, rI_enm, rI_ez, rI_zip, rG_name, rG_tup, rG_sub, rGs_nil, rGs_cons, rS_asg, rS_par, rS_ex, rS_ret, rS_retN, rS_ife, rS_for, rS_whl, rS_never, rS_pass, rS_brk, rS_cont, rSs_nil, rSs_cons, o_add_i, o_sub_i, o_mul_i, o_fdiv_i, o_mod_i, o_pow_i, o_add_t, o_add_s, o_add_r, c_lt_i, c_le_i, c_gt_i, c_ge_i, i_tup, i_rl, i_ref, s_tup, s_rl, s_ref, r_tup, q_tup, q_rl, q_ref, l_rl, l_ref, t_append, t_extend, t_pop, m_append, m_extend, m_pop, st_ref, it_tup, it_rl, it_ref, rg_1, rg_2, z_2, z_3, dw_nil, dw_cons, b_abs, b_int, b_intb, b_stri, b_lent, b_lenr, b_lenl, b_tuple, b_list, b_all, b_any, b_sum, b_max, b_min, List.getElem?_cons_zero, List.getElem?_cons_succ, List.set_cons_zero, List.set_cons_succ, ex_some, ex_bl, ex_int, Bool.false_eq_true, if_false, if_true, Tgs.len, DL.Tgs.len]
    refine ⟨by decide, ⟨by decide, by decide⟩, _, Sub.refl _, ?_⟩
    try simp only [rE_var, rE_int, rE_str, rE_bl, rE_non, rE_glo, rE_bin, rE_neg, rE_cmp, rE_chn, rE_and, rE_or, rE_not, rE_ife, rE_idx, rE_slc, rE_rev, rE_tup, rE_lst, rE_dic, rE_call, rE_callk, rE_isI, rE_blt, rE_rng, rE_mth, rE_lc, rT_and, rT_or, rT_not, rT_cmp, rT_chn, rT_bl, rT_var, rT_call, rT_isI, rT_blt, rA_nil, rA_cons, rA_star, rTs_nil, rTs_one, rO_no, rO_yes, rI_of, rI_rng, rI_enm, rI_ez, rI_zip, rG_name, rG_tup, rG_sub, rGs_nil, rGs_cons, rS_asg, rS_par, rS_ex, rS_ret, rS_retN, rS_ife, rS_for, rS_whl, rS_never, rS_pass, rS_brk, rS_cont, rSs_nil, rSs_cons, o_add_i, o_sub_i, o_mul_i, o_fdiv_i, o_mod_i, o_pow_i, o_add_t, o_add_s, o_add_r, c_lt_i, c_le_i, c_gt_i, c_ge_i, i_tup, i_rl, i_ref, s_tup, s_rl, s_ref, r_tup, q_tup, q_rl, q_ref, l_rl, l_ref, t_append, t_extend, t_pop, m_append, m_extend, m_pop, st_ref, it_tup, it_rl, it_ref, rg_1, rg_2, z_2, z_3, dw_nil, dw_cons, b_abs, b_int, b_intb, b_stri, b_lent, b_lenr, b_lenl, b_tuple, b_list, b_all, b_any, b_sum, b_max, b_min, List.getElem?_cons_zero, List.getElem?_cons_succ, List.set_cons_zero, List.set_cons_succ, ex_some, ex_bl, ex_int, Bool.false_eq_true, if_false, if_true, Tgs.len, DL.Tgs.len]
    refine ⟨hu, ret_sub (η2 := η1) ?_ (h _ _ (Int.emod_nonneg _ (by omega)) (Int.emod_lt_of_pos _ hu) ⟨own, mid, cnt + 1, e1, h1, h2, h3, by omega, by omega⟩ (by rw [← hη]; exact Fr.put))⟩
    rw [← hη2]
    exact Sub.new hq
end
end K43

set_option Elab.async false
set_option linter.all false
set_option maxRecDepth 100000
set_option maxHeartbeats 4000000
/-! K43I: what the law draws from a pot. -/
namespace K43
open PySem PySem.Spec PyProof.Rows L2 DL
section
variable {n : Nat} {η : Sto} {Q : DK}
theorem Pot.some {p : Addr} {c : Nat} (h : Pot η p c) : ∃ o, η p = some o := by
  obtain ⟨a, b, c, e, _⟩ := h
  exact ⟨_, e⟩
theorem Pot.ne {p q : Addr} {c : Nat} (h : Pot η p c) (hq : η q = none) : q ≠ p := fun e => by
  obtain ⟨o, k⟩ := h.some
  rw [e, k] at hq; cases hq
theorem law_of {p q : Addr} {xs : List D} {c : Nat} (hp : Pot η p c) (hq : η q = some (.lst xs)) (hqp : q ≠ p) (h0 : xs ≠ []) (hl : xs.length ≤ 8000) (hc : c ≤ 1000000) (h : ∀ x η', x ∈ xs → Pot η' p (c + 1) → Fr p η η' → Q x η') : CC (n + 2) (S "_law_of") [.ref p, .ref q] η Q := by
  refine u__law_of ?_
  simp only [o__law_of, rE_var, rE_int, rE_str, rE_bl, rE_non, rE_glo, rE_bin, rE_neg, rE_cmp, rE_chn, rE_and, rE_or, rE_not, rE_ife, rE_idx, rE_slc, rE_rev, rE_tup, rE_lst, rE_dic, rE_call, rE_callk, rE_isI, rE_blt, rE_rng, rE_mth, rE_lc, rT_and, rT_or, rT_not, rT_cmp, rT_chn, rT_bl, rT_var, rT_call, rT_isI, rT_blt, rA_nil, rA_cons, rA_star, rTs_nil, rTs_one, rO_no, rO_yes, rI_of, rI_rng, rI_enm, rI_ez, rI_zip, rG_name, rG_tup, rG_sub, rGs_nil, rGs_cons, rS_asg, rS_par, rS_ex, rS_ret, rS_retN, rS_ife, rS_for, rS_whl, rS_never, rS_pass, rS_brk, rS_cont, rSs_nil, rSs_cons, o_add_i, o_sub_i, o_mul_i, o_fdiv_i, o_mod_i, o_pow_i, o_add_t, o_add_s, o_add_r, c_lt_i, c_le_i, c_gt_i, c_ge_i, i_tup, i_rl, i_ref, s_tup, s_rl, s_ref, r_tup, q_tup, q_rl, q_ref, l_rl, l_ref, t_append, t_extend, t_pop, m_append, m_extend, m_pop, st_ref, it_tup, it_rl, it_ref, rg_1, rg_2, z_2, z_3, dw_nil, dw_cons, b_abs, b_int, b_intb, b_stri, b_lent, b_lenr, b_lenl, b_tuple, b_list, b_all, b_any, b_sum, b_max, b_min, List.getElem?_cons_zero, List.getElem?_cons_succ, List.set_cons_zero, List.set_cons_succ, ex_some, ex_bl, ex_int, Bool.false_eq_true, if_false, if_true, Tgs.len, DL.Tgs.len]
  have hpos : 0 < xs.length := List.length_pos_iff.mpr h0
  refine ⟨xs, hq, _, Sub.refl _, law_take hp (by omega) (by omega) hc fun r η' h1 h2 hp' fr => ?_⟩
  obtain ⟨k, rfl⟩ : ∃ k : Nat, r = (k : Int) := ⟨r.toNat, by omega⟩
  have hk : k < xs.length := by omega
  simp only [rE_var, rE_int, rE_str, rE_bl, rE_non, rE_glo, rE_bin, rE_neg, rE_cmp, rE_chn, rE_and, rE_or, rE_not, rE_ife, rE_idx, rE_slc, rE_rev, rE_tup, rE_lst, rE_dic, rE_call, rE_callk, rE_isI, rE_blt, rE_rng, rE_mth, rE_lc, rT_and, rT_or, rT_not, rT_cmp, rT_chn, rT_bl, rT_var, rT_call, rT_isI, rT_blt, rA_nil, rA_cons, rA_star, rTs_nil, rTs_one, rO_no, rO_yes, rI_of, rI_rng, rI_enm, rI_ez, rI_zip, rG_name, rG_tup, rG_sub, rGs_nil, rGs_cons, rS_asg, rS_par, rS_ex, rS_ret, rS_retN, rS_ife, rS_for, rS_whl, rS_never, rS_pass, rS_brk, rS_cont, rSs_nil, rSs_cons, o_add_i, o_sub_i, o_mul_i, o_fdiv_i, o_mod_i, o_pow_i, o_add_t, o_add_s, o_add_r, c_lt_i, c_le_i, c_gt_i, c_ge_i, i_tup, i_rl, i_ref, s_tup, s_rl, s_ref, r_tup, q_tup, q_rl, q_ref, l_rl, l_ref, t_append, t_extend, t_pop, m_append, m_extend, m_pop, st_ref, it_tup, it_rl, it_ref, rg_1, rg_2, z_2, z_3, dw_nil, dw_cons, b_abs, b_int, b_intb, b_stri, b_lent, b_lenr, b_lenl, b_tuple, b_list, b_all, b_any, b_sum, b_max, b_min, List.getElem?_cons_zero, List.getElem?_cons_succ, List.set_cons_zero, List.set_cons_succ, ex_some, ex_bl, ex_int, Bool.false_eq_true, if_false, if_true, Tgs.len, DL.Tgs.len]
  exact ⟨xs, _, fr q _ hqp hq, atI_nat (List.getElem?_eq_getElem hk), ret_of (h _ _ (List.getElem_mem hk) hp' fr)⟩
theorem law_cells {xs : List D} {lim : Int} (hl : xs.length ≤ 1000) (h0 : 0 ≤ lim) (h1 : lim ≤ 1000) (h : ∀ q (k : Nat), (k : Int) ≤ max 1 lim → η q = none → Q (.ref q) (put η q (.lst (rngD 0 (k : Int))))) : CC (n + 1) (S "_law_cells") [.rl xs, .int lim] η Q := by
  refine u__law_cells ?_
  simp only [o__law_cells, rE_var, rE_int, rE_str, rE_bl, rE_non, rE_glo, rE_bin, rE_neg, rE_cmp, rE_chn, rE_and, rE_or, rE_not, rE_ife, rE_idx, rE_slc, rE_rev, rE_tup, rE_lst, rE_dic, rE_call, rE_callk, rE_isI, rE_blt, rE_rng, rE_mth, rE_lc, rT_and, rT_or, rT_not, rT_cmp, rT_chn, rT_bl, rT_var, rT_call, rT_isI, rT_blt, rA_nil, rA_cons, rA_star, rTs_nil, rTs_one, rO_no, rO_yes, rI_of, rI_rng, rI_enm, rI_ez, rI_zip, rG_name, rG_tup, rG_sub, rGs_nil, rGs_cons, rS_asg, rS_par, rS_ex, rS_ret, rS_retN, rS_ife, rS_for, rS_whl, rS_never, rS_pass, rS_brk, rS_cont, rSs_nil, rSs_cons, o_add_i, o_sub_i, o_mul_i, o_fdiv_i, o_mod_i, o_pow_i, o_add_t, o_add_s, o_add_r, c_lt_i, c_le_i, c_gt_i, c_ge_i, i_tup, i_rl, i_ref, s_tup, s_rl, s_ref, r_tup, q_tup, q_rl, q_ref, l_rl, l_ref, t_append, t_extend, t_pop, m_append, m_extend, m_pop, st_ref, it_tup, it_rl, it_ref, rg_1, rg_2, z_2, z_3, dw_nil, dw_cons, b_abs, b_int, b_intb, b_stri, b_lent, b_lenr, b_lenl, b_tuple, b_list, b_all, b_any, b_sum, b_max, b_min, List.getElem?_cons_zero, List.getElem?_cons_succ, List.set_cons_zero, List.set_cons_succ, ex_some, ex_bl, ex_int, Bool.false_eq_true, if_false, if_true, Tgs.len, DL.Tgs.len]
  refine ⟨xs, rfl, _, Sub.refl _, _, Sub.refl _, ?_⟩
  try simp only [rE_var, rE_int, rE_str, rE_bl, rE_non, rE_glo, rE_bin, rE_neg, rE_cmp, rE_chn, rE_and, rE_or, rE_not, rE_ife, rE_idx, rE_slc, rE_rev, rE_tup, rE_lst, rE_dic, rE_call, rE_callk, rE_isI, rE_blt, rE_rng, rE_mth, rE_lc, rT_and, rT_or, rT_not, rT_cmp, rT_chn, rT_bl, rT_var, rT_call, rT_isI, rT_blt, rA_nil, rA_cons, rA_star, rTs_nil, rTs_one, rO_no, rO_yes, rI_of, rI_rng, rI_enm, rI_ez, rI_zip, rG_name, rG_tup, rG_sub, rGs_nil, rGs_cons, rS_asg, rS_par, rS_ex, rS_ret, rS_retN, rS_ife, rS_for, rS_whl, rS_never, rS_pass, rS_brk, rS_cont, rSs_nil, rSs_cons, o_add_i, o_sub_i, o_mul_i, o_fdiv_i, o_mod_i, o_pow_i, o_add_t, o_add_s, o_add_r, c_lt_i, c_le_i, c_gt_i, c_ge_i, i_tup, i_rl, i_ref, s_tup, s_rl, s_ref, r_tup, q_tup, q_rl, q_ref, l_rl, l_ref, t_append, t_extend, t_pop, m_append, m_extend, m_pop, st_ref, it_tup, it_rl, it_ref, rg_1, rg_2, z_2, z_3, dw_nil, dw_cons, b_abs, b_int, b_intb, b_stri, b_lent, b_lenr, b_lenl, b_tuple, b_list, b_all, b_any, b_sum, b_max, b_min, List.getElem?_cons_zero, List.getElem?_cons_succ, List.set_cons_zero, List.set_cons_succ, ex_some, ex_bl, ex_int, Bool.false_eq_true, if_false, if_true, Tgs.len, DL.Tgs.len]
  refine ⟨_, Sub.refl _, ?_⟩
  try simp only [rE_var, rE_int, rE_str, rE_bl, rE_non, rE_glo, rE_bin, rE_neg, rE_cmp, rE_chn, rE_and, rE_or, rE_not, rE_ife, rE_idx, rE_slc, rE_rev, rE_tup, rE_lst, rE_dic, rE_call, rE_callk, rE_isI, rE_blt, rE_rng, rE_mth, rE_lc, rT_and, rT_or, rT_not, rT_cmp, rT_chn, rT_bl, rT_var, rT_call, rT_isI, rT_blt, rA_nil, rA_cons, rA_star, rTs_nil, rTs_one, rO_no, rO_yes, rI_of, rI_rng, rI_enm, rI_ez, rI_zip, rG_name, rG_tup, rG_sub, rGs_nil, rGs_cons, rS_asg, rS_par, rS_ex, rS_ret, rS_retN, rS_ife, rS_for, rS_whl, rS_never, rS_pass, rS_brk, rS_cont, rSs_nil, rSs_cons, o_add_i, o_sub_i, o_mul_i, o_fdiv_i, o_mod_i, o_pow_i, o_add_t, o_add_s, o_add_r, c_lt_i, c_le_i, c_gt_i, c_ge_i, i_tup, i_rl, i_ref, s_tup, s_rl, s_ref, r_tup, q_tup, q_rl, q_ref, l_rl, l_ref, t_append, t_extend, t_pop, m_append, m_extend, m_pop, st_ref, it_tup, it_rl, it_ref, rg_1, rg_2, z_2, z_3, dw_nil, dw_cons, b_abs, b_int, b_intb, b_stri, b_lent, b_lenr, b_lenl, b_tuple, b_list, b_all, b_any, b_sum, b_max, b_min, List.getElem?_cons_zero, List.getElem?_cons_succ, List.set_cons_zero, List.set_cons_succ, ex_some, ex_bl, ex_int, Bool.false_eq_true, if_false, if_true, Tgs.len, DL.Tgs.len]
  obtain ⟨k, hk1, hk2⟩ : ∃ k : Nat, (if (if (xs.length : Int) < lim then (xs.length : Int) else lim) > 1 then (if (xs.length : Int) < lim then (xs.length : Int) else lim) else 1) = (k : Int) ∧ (k : Int) ≤ max 1 lim := by
    refine ⟨(if (if (xs.length : Int) < lim then (xs.length : Int) else lim) > 1 then (if (xs.length : Int) < lim then (xs.length : Int) else lim) else 1).toNat, ?_, ?_⟩ <;> (repeat' split) <;> omega
  rw [hk1]
  have hk3 : k ≤ 1000 := by omega
  refine ⟨inR_nat (by omega), size_of (by simp; omega), fun q hq => ret_of (h q k hk2 hq)⟩
def hd : Ss → DL.S
  | .cons a _ => a
  | _ => .pass
def tl : Ss → Ss
  | .cons _ r => r
  | r => r
theorem big_pos : (0 : Int) < (10 ^ Int.toNat 60) ^ Int.toNat 5 := by decide +kernel
theorem big_bits : (Builtin.Int.intBits (10 ^ Int.toNat 60) : Int) * 5 ≤ 2 ^ 27 := by decide +kernel
theorem law_pot {ns : List Int} {k : Nat} (hk : k ≤ 1000) (h : ∀ p η', η p = none → Pot η' p 0 → Sub η η' → Q (.ref p) η') : CC (n + 1) (S "_law_pot") [.rl (ns.map .int), .int (k : Int)] η Q := by
  refine u__law_pot ?_
  have rest : ∀ (cell : Int) (η1 : Sto), Sub η η1 → rdSs (CC n) GG (tl o__law_pot) (retE Q) [some (.rl (ns.map .int)), some (.int (k : Int)), some (.int cell), none, none] η1 := by
    intro cell η1 sb
    simp only [tl, o__law_pot, rE_var, rE_int, rE_str, rE_bl, rE_non, rE_glo, rE_bin, rE_neg, rE_cmp, rE_chn, rE_and, rE_or, rE_not, rE_ife, rE_idx, rE_slc, rE_rev, rE_tup, rE_lst, rE_dic, rE_call, rE_callk, rE_isI, rE_blt, rE_rng, rE_mth, rE_lc, rT_and, rT_or, rT_not, rT_cmp, rT_chn, rT_bl, rT_var, rT_call, rT_isI, rT_blt, rA_nil, rA_cons, rA_star, rTs_nil, rTs_one, rO_no, rO_yes, rI_of, rI_rng, rI_enm, rI_ez, rI_zip, rG_name, rG_tup, rG_sub, rGs_nil, rGs_cons, rS_asg, rS_par, rS_ex, rS_ret, rS_retN, rS_ife, rS_for, rS_whl, rS_never, rS_pass, rS_brk, rS_cont, rSs_nil, rSs_cons, o_add_i, o_sub_i, o_mul_i, o_fdiv_i, o_mod_i, o_pow_i, o_add_t, o_add_s, o_add_r, c_lt_i, c_le_i, c_gt_i, c_ge_i, i_tup, i_rl, i_ref, s_tup, s_rl, s_ref, r_tup, q_tup, q_rl, q_ref, l_rl, l_ref, t_append, t_extend, t_pop, m_append, m_extend, m_pop, st_ref, it_tup, it_rl, it_ref, rg_1, rg_2, z_2, z_3, dw_nil, dw_cons, b_abs, b_int, b_intb, b_stri, b_lent, b_lenr, b_lenl, b_tuple, b_list, b_all, b_any, b_sum, b_max, b_min, List.getElem?_cons_zero, List.getElem?_cons_succ, List.set_cons_zero, List.set_cons_succ, ex_some, ex_bl, ex_int, Bool.false_eq_true, if_false, if_true, Tgs.len, DL.Tgs.len]
    refine ⟨_, Sub.refl _, ?_⟩
    try simp only [rE_var, rE_int, rE_str, rE_bl, rE_non, rE_glo, rE_bin, rE_neg, rE_cmp, rE_chn, rE_and, rE_or, rE_not, rE_ife, rE_idx, rE_slc, rE_rev, rE_tup, rE_lst, rE_dic, rE_call, rE_callk, rE_isI, rE_blt, rE_rng, rE_mth, rE_lc, rT_and, rT_or, rT_not, rT_cmp, rT_chn, rT_bl, rT_var, rT_call, rT_isI, rT_blt, rA_nil, rA_cons, rA_star, rTs_nil, rTs_one, rO_no, rO_yes, rI_of, rI_rng, rI_enm, rI_ez, rI_zip, rG_name, rG_tup, rG_sub, rGs_nil, rGs_cons, rS_asg, rS_par, rS_ex, rS_ret, rS_retN, rS_ife, rS_for, rS_whl, rS_never, rS_pass, rS_brk, rS_cont, rSs_nil, rSs_cons, o_add_i, o_sub_i, o_mul_i, o_fdiv_i, o_mod_i, o_pow_i, o_add_t, o_add_s, o_add_r, c_lt_i, c_le_i, c_gt_i, c_ge_i, i_tup, i_rl, i_ref, s_tup, s_rl, s_ref, r_tup, q_tup, q_rl, q_ref, l_rl, l_ref, t_append, t_extend, t_pop, m_append, m_extend, m_pop, st_ref, it_tup, it_rl, it_ref, rg_1, rg_2, z_2, z_3, dw_nil, dw_cons, b_abs, b_int, b_intb, b_stri, b_lent, b_lenr, b_lenl, b_tuple, b_list, b_all, b_any, b_sum, b_max, b_min, List.getElem?_cons_zero, List.getElem?_cons_succ, List.set_cons_zero, List.set_cons_succ, ex_some, ex_bl, ex_int, Bool.false_eq_true, if_false, if_true, Tgs.len, DL.Tgs.len]
    refine ⟨_, Sub.refl _, by decide, by decide, by decide, big_bits, big_pos, ?_⟩
    generalize hB : ((10 : Int) ^ Int.toNat 60) ^ Int.toNat 5 = B
    have hB0 : 0 < B := by rw [← hB]; exact big_pos
    try simp only [rE_var, rE_int, rE_str, rE_bl, rE_non, rE_glo, rE_bin, rE_neg, rE_cmp, rE_chn, rE_and, rE_or, rE_not, rE_ife, rE_idx, rE_slc, rE_rev, rE_tup, rE_lst, rE_dic, rE_call, rE_callk, rE_isI, rE_blt, rE_rng, rE_mth, rE_lc, rT_and, rT_or, rT_not, rT_cmp, rT_chn, rT_bl, rT_var, rT_call, rT_isI, rT_blt, rA_nil, rA_cons, rA_star, rTs_nil, rTs_one, rO_no, rO_yes, rI_of, rI_rng, rI_enm, rI_ez, rI_zip, rG_name, rG_tup, rG_sub, rGs_nil, rGs_cons, rS_asg, rS_par, rS_ex, rS_ret, rS_retN, rS_ife, rS_for, rS_whl, rS_never, rS_pass, rS_brk, rS_cont, rSs_nil, rSs_cons, o_add_i, o_sub_i, o_mul_i, o_fdiv_i, o_mod_i, o_pow_i, o_add_t, o_add_s, o_add_r, c_lt_i, c_le_i, c_gt_i, c_ge_i, i_tup, i_rl, i_ref, s_tup, s_rl, s_ref, r_tup, q_tup, q_rl, q_ref, l_rl, l_ref, t_append, t_extend, t_pop, m_append, m_extend, m_pop, st_ref, it_tup, it_rl, it_ref, rg_1, rg_2, z_2, z_3, dw_nil, dw_cons, b_abs, b_int, b_intb, b_stri, b_lent, b_lenr, b_lenl, b_tuple, b_list, b_all, b_any, b_sum, b_max, b_min, List.getElem?_cons_zero, List.getElem?_cons_succ, List.set_cons_zero, List.set_cons_succ, ex_some, ex_bl, ex_int, Bool.false_eq_true, if_false, if_true, Tgs.len, DL.Tgs.len]
    refine ⟨_, Sub.refl _, by decide, by decide, ?_⟩
    generalize hx : (if cell < 0 then -cell else cell) % B = x
    have hx0 : 0 ≤ x := by rw [← hx]; exact Int.emod_nonneg _ (by omega)
    generalize hb : (if decide (10 ^ Int.toNat 18 ≤ if cell < 0 then -cell else cell) = true then (1 : Int) else 0) = b
    have hb2 : 0 ≤ b ∧ b ≤ 1 := by
      generalize decide (10 ^ Int.toNat 18 ≤ if cell < 0 then -cell else cell) = t at hb
      rw [← hb]
      cases t <;> decide
    refine ⟨η1, Sub.refl _, mul_r (by omega), η1, Sub.refl _, by decide, mul_r (by decide), mul_l (by decide), mul_r (by omega), η1, Sub.refl _, by decide, size_of (by simp), fun p hp => ?_⟩
    have hp0 : η p = none := by
      cases z : η p with
      | none => rfl
      | some o => rw [sb p o z] at hp; cases hp
    refine ret_of (h p _ hp0 ⟨_, _, _, put_same, Int.mul_nonneg hx0 hb2.1, Int.emod_nonneg _ (by decide), ?_, by decide, by decide⟩ (Sub.ofput hp0 sb))
    have := Int.emod_lt_of_pos (cell % 2305843009213693951 * 70143 + 6075 * ↑k * ↑k + 1655) (b := 2305843009213693921) (by decide)
    omega
  have e : o__law_pot = .cons (hd o__law_pot) (tl o__law_pot) := rfl
  rw [e]
  generalize hT : tl o__law_pot = T at rest
  simp only [rSs_cons, hd, o__law_pot]
  simp only [rE_var, rE_int, rE_str, rE_bl, rE_non, rE_glo, rE_bin, rE_neg, rE_cmp, rE_chn, rE_and, rE_or, rE_not, rE_ife, rE_idx, rE_slc, rE_rev, rE_tup, rE_lst, rE_dic, rE_call, rE_callk, rE_isI, rE_blt, rE_rng, rE_mth, rE_lc, rT_and, rT_or, rT_not, rT_cmp, rT_chn, rT_bl, rT_var, rT_call, rT_isI, rT_blt, rA_nil, rA_cons, rA_star, rTs_nil, rTs_one, rO_no, rO_yes, rI_of, rI_rng, rI_enm, rI_ez, rI_zip, rG_name, rG_tup, rG_sub, rGs_nil, rGs_cons, rS_asg, rS_par, rS_ex, rS_ret, rS_retN, rS_ife, rS_for, rS_whl, rS_never, rS_pass, rS_brk, rS_cont, rSs_nil, rSs_cons, o_add_i, o_sub_i, o_mul_i, o_fdiv_i, o_mod_i, o_pow_i, o_add_t, o_add_s, o_add_r, c_lt_i, c_le_i, c_gt_i, c_ge_i, i_tup, i_rl, i_ref, s_tup, s_rl, s_ref, r_tup, q_tup, q_rl, q_ref, l_rl, l_ref, t_append, t_extend, t_pop, m_append, m_extend, m_pop, st_ref, it_tup, it_rl, it_ref, rg_1, rg_2, z_2, z_3, dw_nil, dw_cons, b_abs, b_int, b_intb, b_stri, b_lent, b_lenr, b_lenl, b_tuple, b_list, b_all, b_any, b_sum, b_max, b_min, List.getElem?_cons_zero, List.getElem?_cons_succ, List.set_cons_zero, List.set_cons_succ, ex_some, ex_bl, ex_int, Bool.false_eq_true, if_false, if_true, Tgs.len, DL.Tgs.len]
  refine ⟨_, rfl, _, Sub.refl _, ?_⟩
  by_cases hl : (k : Int) < (((ns.map D.int).length : Nat) : Int)
  · simp only [hl, decide_true, rE_var, rE_int, rE_str, rE_bl, rE_non, rE_glo, rE_bin, rE_neg, rE_cmp, rE_chn, rE_and, rE_or, rE_not, rE_ife, rE_idx, rE_slc, rE_rev, rE_tup, rE_lst, rE_dic, rE_call, rE_callk, rE_isI, rE_blt, rE_rng, rE_mth, rE_lc, rT_and, rT_or, rT_not, rT_cmp, rT_chn, rT_bl, rT_var, rT_call, rT_isI, rT_blt, rA_nil, rA_cons, rA_star, rTs_nil, rTs_one, rO_no, rO_yes, rI_of, rI_rng, rI_enm, rI_ez, rI_zip, rG_name, rG_tup, rG_sub, rGs_nil, rGs_cons, rS_asg, rS_par, rS_ex, rS_ret, rS_retN, rS_ife, rS_for, rS_whl, rS_never, rS_pass, rS_brk, rS_cont, rSs_nil, rSs_cons, o_add_i, o_sub_i, o_mul_i, o_fdiv_i, o_mod_i, o_pow_i, o_add_t, o_add_s, o_add_r, c_lt_i, c_le_i, c_gt_i, c_ge_i, i_tup, i_rl, i_ref, s_tup, s_rl, s_ref, r_tup, q_tup, q_rl, q_ref, l_rl, l_ref, t_append, t_extend, t_pop, m_append, m_extend, m_pop, st_ref, it_tup, it_rl, it_ref, rg_1, rg_2, z_2, z_3, dw_nil, dw_cons, b_abs, b_int, b_intb, b_stri, b_lent, b_lenr, b_lenl, b_tuple, b_list, b_all, b_any, b_sum, b_max, b_min, List.getElem?_cons_zero, List.getElem?_cons_succ, List.set_cons_zero, List.set_cons_succ, ex_some, ex_bl, ex_int, Bool.false_eq_true, if_false, if_true, Tgs.len, DL.Tgs.len]
    have hk2 : k < ns.length := by simpa using hl
    refine ⟨.int ns[k], atI_nat (by simp [hk2]), ?_⟩
    exact rest _ _ (Sub.refl _)
  · simp only [hl, decide_false, rE_var, rE_int, rE_str, rE_bl, rE_non, rE_glo, rE_bin, rE_neg, rE_cmp, rE_chn, rE_and, rE_or, rE_not, rE_ife, rE_idx, rE_slc, rE_rev, rE_tup, rE_lst, rE_dic, rE_call, rE_callk, rE_isI, rE_blt, rE_rng, rE_mth, rE_lc, rT_and, rT_or, rT_not, rT_cmp, rT_chn, rT_bl, rT_var, rT_call, rT_isI, rT_blt, rA_nil, rA_cons, rA_star, rTs_nil, rTs_one, rO_no, rO_yes, rI_of, rI_rng, rI_enm, rI_ez, rI_zip, rG_name, rG_tup, rG_sub, rGs_nil, rGs_cons, rS_asg, rS_par, rS_ex, rS_ret, rS_retN, rS_ife, rS_for, rS_whl, rS_never, rS_pass, rS_brk, rS_cont, rSs_nil, rSs_cons, o_add_i, o_sub_i, o_mul_i, o_fdiv_i, o_mod_i, o_pow_i, o_add_t, o_add_s, o_add_r, c_lt_i, c_le_i, c_gt_i, c_ge_i, i_tup, i_rl, i_ref, s_tup, s_rl, s_ref, r_tup, q_tup, q_rl, q_ref, l_rl, l_ref, t_append, t_extend, t_pop, m_append, m_extend, m_pop, st_ref, it_tup, it_rl, it_ref, rg_1, rg_2, z_2, z_3, dw_nil, dw_cons, b_abs, b_int, b_intb, b_stri, b_lent, b_lenr, b_lenl, b_tuple, b_list, b_all, b_any, b_sum, b_max, b_min, List.getElem?_cons_zero, List.getElem?_cons_succ, List.set_cons_zero, List.set_cons_succ, ex_some, ex_bl, ex_int, Bool.false_eq_true, if_false, if_true, Tgs.len, DL.Tgs.len]
    intro q hq
    refine ⟨ns.take 1, ?_, η, sub_new hq, by decide, mul_l (by decide), ?_⟩
    · rw [put_same]
      have : cut (ns.map D.int) none (some 1) = (ns.take 1).map D.int := by
        have := cut_to (ns.map D.int) 1
        rw [List.map_take]
        exact this
      rw [this]
    · exact rest _ _ (Sub.refl _)
/-- small flat items -/
def Itm : D → Bool
  | .non => true
  | .bl _ => true
  | .int i => decide (-150 ≤ i ∧ i ≤ 150)
  | .str x => decide ((PyData.shown (.str x)).length ≤ 60)
  | .tup [.int i] => decide (-150 ≤ i ∧ i ≤ 150)
  | _ => false
/-- what is_word is asked about -/
inductive Val (p : Addr) (η : Sto) : D → Prop
  | itm (d : D) : Itm d = true → Val p η d
  | tup (xs : List D) : xs.length ≤ 200 → (∀ x ∈ xs, Itm x = true) → Val p η (.tup xs)
  | lst (a : Addr) (xs : List D) : a ≠ p → η a = some (.lst xs) → xs.length ≤ 200 → (∀ x ∈ xs, Itm x = true) → Val p η (.ref a)
  | dic (a : Addr) : a ≠ p → η a = some (.dK []) → Val p η (.ref a)
theorem Val.fr {p : Addr} {η η' : Sto} {d : D} (h : Val p η d) (f : Fr p η η') : Val p η' d := by
  cases h with
  | itm _ h => exact .itm _ h
  | tup _ h k => exact .tup _ h k
  | lst _ _ h a b c => exact .lst _ _ h (f _ _ h a) b c
  | dic _ h a => exact .dic _ h (f _ _ h a)
theorem str_sm : ∀ a : Fin 9, (PyData.shown (.str (toString (a.val : Int)))).length ≤ 60 := by decide +kernel
theorem cne_tI {η : Sto} {l m : List Int} {Q : Bool → Sto → Prop} (h : Q (!decide (l = m)) η) : cmpD .ne (.tup (l.map .int)) (.tup (m.map .int)) η Q :=
  .inr (.inr ⟨_, _, pd_tI l, pd_tI m, shaped_pI l, shaped_pI m, by rw [eqv_pI']; exact h⟩)
theorem wL_int (w : List Nat) : wL w = (w.map fun (a : Nat) => (a : Int)).map .int := by unfold wL; rw [List.map_map]; rfl
theorem law_bent_int {p : Addr} {a c : Nat} (ha : a ≤ 8) (hp : Pot η p c) (hc : c ≤ 200000) (h : ∀ d η', Itm d = true → Pot η' p (c + 1) → Fr p η η' → Q d η') : CC (n + 3) (S "_law_bent") [.ref p, .int (a : Int)] η Q := by
  refine u__law_bent ?_
  simp only [o__law_bent, rE_var, rE_int, rE_str, rE_bl, rE_non, rE_glo, rE_bin, rE_neg, rE_cmp, rE_chn, rE_and, rE_or, rE_not, rE_ife, rE_idx, rE_slc, rE_rev, rE_tup, rE_lst, rE_dic, rE_call, rE_callk, rE_isI, rE_blt, rE_rng, rE_mth, rE_lc, rT_and, rT_or, rT_not, rT_cmp, rT_chn, rT_bl, rT_var, rT_call, rT_isI, rT_blt, rA_nil, rA_cons, rA_star, rTs_nil, rTs_one, rO_no, rO_yes, rI_of, rI_rng, rI_enm, rI_ez, rI_zip, rG_name, rG_tup, rG_sub, rGs_nil, rGs_cons, rS_asg, rS_par, rS_ex, rS_ret, rS_retN, rS_ife, rS_for, rS_whl, rS_never, rS_pass, rS_brk, rS_cont, rSs_nil, rSs_cons, o_add_i, o_sub_i, o_mul_i, o_fdiv_i, o_mod_i, o_pow_i, o_add_t, o_add_s, o_add_r, c_lt_i, c_le_i, c_gt_i, c_ge_i, i_tup, i_rl, i_ref, s_tup, s_rl, s_ref, r_tup, q_tup, q_rl, q_ref, l_rl, l_ref, t_append, t_extend, t_pop, m_append, m_extend, m_pop, st_ref, it_tup, it_rl, it_ref, rg_1, rg_2, z_2, z_3, dw_nil, dw_cons, b_abs, b_int, b_intb, b_stri, b_lent, b_lenr, b_lenl, b_tuple, b_list, b_all, b_any, b_sum, b_max, b_min, List.getElem?_cons_zero, List.getElem?_cons_succ, List.set_cons_zero, List.set_cons_succ, ex_some, ex_bl, ex_int, Bool.false_eq_true, if_false, if_true, Tgs.len, DL.Tgs.len]
  refine ⟨"int", rfl, ?_⟩
  have i1 : isCls "int" "tuple" = false := rfl
  have i2 : isCls "int" "int" = true := rfl
  have i3 : isCls "int" "bool" = false := rfl
  simp only [i1, rE_var, rE_int, rE_str, rE_bl, rE_non, rE_glo, rE_bin, rE_neg, rE_cmp, rE_chn, rE_and, rE_or, rE_not, rE_ife, rE_idx, rE_slc, rE_rev, rE_tup, rE_lst, rE_dic, rE_call, rE_callk, rE_isI, rE_blt, rE_rng, rE_mth, rE_lc, rT_and, rT_or, rT_not, rT_cmp, rT_chn, rT_bl, rT_var, rT_call, rT_isI, rT_blt, rA_nil, rA_cons, rA_star, rTs_nil, rTs_one, rO_no, rO_yes, rI_of, rI_rng, rI_enm, rI_ez, rI_zip, rG_name, rG_tup, rG_sub, rGs_nil, rGs_cons, rS_asg, rS_par, rS_ex, rS_ret, rS_retN, rS_ife, rS_for, rS_whl, rS_never, rS_pass, rS_brk, rS_cont, rSs_nil, rSs_cons, o_add_i, o_sub_i, o_mul_i, o_fdiv_i, o_mod_i, o_pow_i, o_add_t, o_add_s, o_add_r, c_lt_i, c_le_i, c_gt_i, c_ge_i, i_tup, i_rl, i_ref, s_tup, s_rl, s_ref, r_tup, q_tup, q_rl, q_ref, l_rl, l_ref, t_append, t_extend, t_pop, m_append, m_extend, m_pop, st_ref, it_tup, it_rl, it_ref, rg_1, rg_2, z_2, z_3, dw_nil, dw_cons, b_abs, b_int, b_intb, b_stri, b_lent, b_lenr, b_lenl, b_tuple, b_list, b_all, b_any, b_sum, b_max, b_min, List.getElem?_cons_zero, List.getElem?_cons_succ, List.set_cons_zero, List.set_cons_succ, ex_some, ex_bl, ex_int, Bool.false_eq_true, if_false, if_true, Tgs.len, DL.Tgs.len]
  refine ⟨"int", rfl, ?_⟩
  simp only [i2, rE_var, rE_int, rE_str, rE_bl, rE_non, rE_glo, rE_bin, rE_neg, rE_cmp, rE_chn, rE_and, rE_or, rE_not, rE_ife, rE_idx, rE_slc, rE_rev, rE_tup, rE_lst, rE_dic, rE_call, rE_callk, rE_isI, rE_blt, rE_rng, rE_mth, rE_lc, rT_and, rT_or, rT_not, rT_cmp, rT_chn, rT_bl, rT_var, rT_call, rT_isI, rT_blt, rA_nil, rA_cons, rA_star, rTs_nil, rTs_one, rO_no, rO_yes, rI_of, rI_rng, rI_enm, rI_ez, rI_zip, rG_name, rG_tup, rG_sub, rGs_nil, rGs_cons, rS_asg, rS_par, rS_ex, rS_ret, rS_retN, rS_ife, rS_for, rS_whl, rS_never, rS_pass, rS_brk, rS_cont, rSs_nil, rSs_cons, o_add_i, o_sub_i, o_mul_i, o_fdiv_i, o_mod_i, o_pow_i, o_add_t, o_add_s, o_add_r, c_lt_i, c_le_i, c_gt_i, c_ge_i, i_tup, i_rl, i_ref, s_tup, s_rl, s_ref, r_tup, q_tup, q_rl, q_ref, l_rl, l_ref, t_append, t_extend, t_pop, m_append, m_extend, m_pop, st_ref, it_tup, it_rl, it_ref, rg_1, rg_2, z_2, z_3, dw_nil, dw_cons, b_abs, b_int, b_intb, b_stri, b_lent, b_lenr, b_lenl, b_tuple, b_list, b_all, b_any, b_sum, b_max, b_min, List.getElem?_cons_zero, List.getElem?_cons_succ, List.set_cons_zero, List.set_cons_succ, ex_some, ex_bl, ex_int, Bool.false_eq_true, if_false, if_true, Tgs.len, DL.Tgs.len]
  refine ⟨"int", rfl, ?_⟩
  simp only [i3, Bool.not_false, rE_var, rE_int, rE_str, rE_bl, rE_non, rE_glo, rE_bin, rE_neg, rE_cmp, rE_chn, rE_and, rE_or, rE_not, rE_ife, rE_idx, rE_slc, rE_rev, rE_tup, rE_lst, rE_dic, rE_call, rE_callk, rE_isI, rE_blt, rE_rng, rE_mth, rE_lc, rT_and, rT_or, rT_not, rT_cmp, rT_chn, rT_bl, rT_var, rT_call, rT_isI, rT_blt, rA_nil, rA_cons, rA_star, rTs_nil, rTs_one, rO_no, rO_yes, rI_of, rI_rng, rI_enm, rI_ez, rI_zip, rG_name, rG_tup, rG_sub, rGs_nil, rGs_cons, rS_asg, rS_par, rS_ex, rS_ret, rS_retN, rS_ife, rS_for, rS_whl, rS_never, rS_pass, rS_brk, rS_cont, rSs_nil, rSs_cons, o_add_i, o_sub_i, o_mul_i, o_fdiv_i, o_mod_i, o_pow_i, o_add_t, o_add_s, o_add_r, c_lt_i, c_le_i, c_gt_i, c_ge_i, i_tup, i_rl, i_ref, s_tup, s_rl, s_ref, r_tup, q_tup, q_rl, q_ref, l_rl, l_ref, t_append, t_extend, t_pop, m_append, m_extend, m_pop, st_ref, it_tup, it_rl, it_ref, rg_1, rg_2, z_2, z_3, dw_nil, dw_cons, b_abs, b_int, b_intb, b_stri, b_lent, b_lenr, b_lenl, b_tuple, b_list, b_all, b_any, b_sum, b_max, b_min, List.getElem?_cons_zero, List.getElem?_cons_succ, List.set_cons_zero, List.set_cons_succ, ex_some, ex_bl, ex_int, Bool.false_eq_true, if_false, if_true, Tgs.len, DL.Tgs.len]
  refine ceq_i ?_
  have hs := str_sm ⟨a, by omega⟩
  refine ⟨?_, η, Sub.refl _, size_of (by simp), size_of (by simp), fun q hq => law_of (hp.new hq) put_same (hp.ne hq) (by simp) (by simp) (by omega) fun x η' hx hp' fr => ?_⟩
  · exact Nat.lt_of_le_of_lt (Nat.log2_le_self _) (by omega)
  · refine ret_of (h x η' ?_ hp' ((Fr.new hq).trans fr))
    simp only [List.mem_cons, List.not_mem_nil, or_false] at hx
    rcases hx with e | e | e | e | e | e | e | e | e <;> subst e <;> simp only [Itm, decide_eq_true_eq] <;> first | rfl | omega | exact hs
theorem wL_itm {w : List Nat} (h : ∀ a ∈ w, a ≤ 8) : ∀ x ∈ wL w, Itm x = true := fun x hx => by
  obtain ⟨a, ha, rfl⟩ := List.mem_map.mp hx
  have := h a ha
  simp only [Itm, decide_eq_true_eq]
  omega
theorem Fr.none {p q : Addr} {η η' : Sto} (f : Fr p η η') (n : q ≠ p) (h : η' q = none) : η q = none := by
  cases z : η q with
  | none => rfl
  | some o => rw [f q o n z] at h; cases h
theorem fresh_sub' {η η' : Sto} {q : Addr} (sb : Sub η η') (h : η' q = none) : η q = none := by
  cases z : η q with
  | none => rfl
  | some o => rw [sb q o z] at h; cases h
theorem law_bent_tup {p : Addr} {w : List Nat} {c : Nat} (hw : w.length ≤ 100) (hl : ∀ a ∈ w, a ≤ 8) (hp : Pot η p c) (hc : c ≤ 100000) (h : ∀ d η', Val p η' d → (∀ a, d = .ref a → η a = none) → Pot η' p (c + 4) → Fr p η η' → Q d η') : CC (n + 4) (S "_law_bent") [.ref p, wD w] η Q := by
  have hi := wL_itm hl
  have hwl := wL_len w
  have menu : ∀ (η1 : Sto) (c' : Nat) (δ3 δ4 : Option D), Pot η1 p c' → c' ≤ c + 2 → Fr p η η1 → rdSs (CC (n + 3)) GG (tl o__law_bent) (retE Q) [some (.ref p), some (.tup (wL w)), δ3, δ4] η1 := by
    intro η1 c' δ3 δ4 hp1 hc1 fr1
    simp only [tl, o__law_bent, rE_var, rE_int, rE_str, rE_bl, rE_non, rE_glo, rE_bin, rE_neg, rE_cmp, rE_chn, rE_and, rE_or, rE_not, rE_ife, rE_idx, rE_slc, rE_rev, rE_tup, rE_lst, rE_dic, rE_call, rE_callk, rE_isI, rE_blt, rE_rng, rE_mth, rE_lc, rT_and, rT_or, rT_not, rT_cmp, rT_chn, rT_bl, rT_var, rT_call, rT_isI, rT_blt, rA_nil, rA_cons, rA_star, rTs_nil, rTs_one, rO_no, rO_yes, rI_of, rI_rng, rI_enm, rI_ez, rI_zip, rG_name, rG_tup, rG_sub, rGs_nil, rGs_cons, rS_asg, rS_par, rS_ex, rS_ret, rS_retN, rS_ife, rS_for, rS_whl, rS_never, rS_pass, rS_brk, rS_cont, rSs_nil, rSs_cons, o_add_i, o_sub_i, o_mul_i, o_fdiv_i, o_mod_i, o_pow_i, o_add_t, o_add_s, o_add_r, c_lt_i, c_le_i, c_gt_i, c_ge_i, i_tup, i_rl, i_ref, s_tup, s_rl, s_ref, r_tup, q_tup, q_rl, q_ref, l_rl, l_ref, t_append, t_extend, t_pop, m_append, m_extend, m_pop, st_ref, it_tup, it_rl, it_ref, rg_1, rg_2, z_2, z_3, dw_nil, dw_cons, b_abs, b_int, b_intb, b_stri, b_lent, b_lenr, b_lenl, b_tuple, b_list, b_all, b_any, b_sum, b_max, b_min, List.getElem?_cons_zero, List.getElem?_cons_succ, List.set_cons_zero, List.set_cons_succ, ex_some, ex_bl, ex_int, Bool.false_eq_true, if_false, if_true, Tgs.len, DL.Tgs.len]
    refine ⟨"tuple", rfl, ?_⟩
    have i1 : isCls "tuple" "int" = false := rfl
    simp only [i1, rE_var, rE_int, rE_str, rE_bl, rE_non, rE_glo, rE_bin, rE_neg, rE_cmp, rE_chn, rE_and, rE_or, rE_not, rE_ife, rE_idx, rE_slc, rE_rev, rE_tup, rE_lst, rE_dic, rE_call, rE_callk, rE_isI, rE_blt, rE_rng, rE_mth, rE_lc, rT_and, rT_or, rT_not, rT_cmp, rT_chn, rT_bl, rT_var, rT_call, rT_isI, rT_blt, rA_nil, rA_cons, rA_star, rTs_nil, rTs_one, rO_no, rO_yes, rI_of, rI_rng, rI_enm, rI_ez, rI_zip, rG_name, rG_tup, rG_sub, rGs_nil, rGs_cons, rS_asg, rS_par, rS_ex, rS_ret, rS_retN, rS_ife, rS_for, rS_whl, rS_never, rS_pass, rS_brk, rS_cont, rSs_nil, rSs_cons, o_add_i, o_sub_i, o_mul_i, o_fdiv_i, o_mod_i, o_pow_i, o_add_t, o_add_s, o_add_r, c_lt_i, c_le_i, c_gt_i, c_ge_i, i_tup, i_rl, i_ref, s_tup, s_rl, s_ref, r_tup, q_tup, q_rl, q_ref, l_rl, l_ref, t_append, t_extend, t_pop, m_append, m_extend, m_pop, st_ref, it_tup, it_rl, it_ref, rg_1, rg_2, z_2, z_3, dw_nil, dw_cons, b_abs, b_int, b_intb, b_stri, b_lent, b_lenr, b_lenl, b_tuple, b_list, b_all, b_any, b_sum, b_max, b_min, List.getElem?_cons_zero, List.getElem?_cons_succ, List.set_cons_zero, List.set_cons_succ, ex_some, ex_bl, ex_int, Bool.false_eq_true, if_false, if_true, Tgs.len, DL.Tgs.len]
    refine ⟨size_of (by simp), size_of (by simp), fun q1 hq1 q2 hq2 => ⟨size_of (by simp), fun q3 hq3 => ?_⟩⟩
    have p1 := hp1.new (o := .lst []) hq1
    have p2 := p1.new (o := .dK []) hq2
    have n21 : q1 ≠ q2 := ne_fresh put_same hq2
    have e2 : put (put η1 q1 (.lst [])) q2 (.dK []) q1 = some (.lst []) := by rw [put_ne n21, put_same]
    have n31 : q1 ≠ q3 := ne_fresh e2 hq3
    have n32 : q2 ≠ q3 := ne_fresh put_same hq3
    refine law_of (p2.new hq3) put_same (p2.ne hq3) (by simp) (by simp) (by omega) fun x η' hx hp' fr => ?_
    have old1 := fr1.none (hp1.ne hq1) hq1
    have old2 := fr1.none (p1.ne hq2) (fresh_sub' (sub_new hq1) hq2)
    refine ret_of (h x η' ?_ ?_ (hp'.mono (by omega)) ((fr1.trans ((Fr.new hq1).trans ((Fr.new hq2).trans (Fr.new hq3)))).trans fr))
    case refine_2 =>
      intro a ea
      subst ea
      simp only [List.mem_cons, List.not_mem_nil, or_false, reduceCtorEq, false_or, D.ref.injEq] at hx
      rcases hx with e | e <;> subst e
      · exact old1
      · exact old2
    have g1 := fr q1 (.lst []) (hp1.ne hq1) (by rw [put_ne n31]; exact e2)
    have g2 := fr q2 (.dK []) (p1.ne hq2) (by rw [put_ne n32]; exact put_same)
    simp only [List.mem_cons, List.not_mem_nil, or_false] at hx
    rcases hx with e | e | e | e | e | e | e | e | e | e | e | e <;> subst e
    case inr.inr.inr.inr.inr.inr.inr.inr.inl => exact .tup [] (by simp) (by simp)
    case inr.inr.inr.inr.inr.inr.inr.inr.inr.inl => exact .lst q1 [] (hp1.ne hq1) g1 (by simp) (by simp)
    case inr.inr.inr.inr.inr.inr.inr.inr.inr.inr.inr => exact .dic q2 (p1.ne hq2) g2
    all_goals exact .itm _ (by decide +kernel)
  refine u__law_bent ?_
  have e : o__law_bent = .cons (hd o__law_bent) (tl o__law_bent) := rfl
  rw [e]
  generalize hT : tl o__law_bent = T at menu
  simp only [rSs_cons, hd, o__law_bent]
  rw [wD_eq]
  simp only [rE_var, rE_int, rE_str, rE_bl, rE_non, rE_glo, rE_bin, rE_neg, rE_cmp, rE_chn, rE_and, rE_or, rE_not, rE_ife, rE_idx, rE_slc, rE_rev, rE_tup, rE_lst, rE_dic, rE_call, rE_callk, rE_isI, rE_blt, rE_rng, rE_mth, rE_lc, rT_and, rT_or, rT_not, rT_cmp, rT_chn, rT_bl, rT_var, rT_call, rT_isI, rT_blt, rA_nil, rA_cons, rA_star, rTs_nil, rTs_one, rO_no, rO_yes, rI_of, rI_rng, rI_enm, rI_ez, rI_zip, rG_name, rG_tup, rG_sub, rGs_nil, rGs_cons, rS_asg, rS_par, rS_ex, rS_ret, rS_retN, rS_ife, rS_for, rS_whl, rS_never, rS_pass, rS_brk, rS_cont, rSs_nil, rSs_cons, o_add_i, o_sub_i, o_mul_i, o_fdiv_i, o_mod_i, o_pow_i, o_add_t, o_add_s, o_add_r, c_lt_i, c_le_i, c_gt_i, c_ge_i, i_tup, i_rl, i_ref, s_tup, s_rl, s_ref, r_tup, q_tup, q_rl, q_ref, l_rl, l_ref, t_append, t_extend, t_pop, m_append, m_extend, m_pop, st_ref, it_tup, it_rl, it_ref, rg_1, rg_2, z_2, z_3, dw_nil, dw_cons, b_abs, b_int, b_intb, b_stri, b_lent, b_lenr, b_lenl, b_tuple, b_list, b_all, b_any, b_sum, b_max, b_min, List.getElem?_cons_zero, List.getElem?_cons_succ, List.set_cons_zero, List.set_cons_succ, ex_some, ex_bl, ex_int, Bool.false_eq_true, if_false, if_true, Tgs.len, DL.Tgs.len]
  refine ⟨"tuple", rfl, ?_⟩
  have i1 : isCls "tuple" "tuple" = true := rfl
  simp only [i1, rE_var, rE_int, rE_str, rE_bl, rE_non, rE_glo, rE_bin, rE_neg, rE_cmp, rE_chn, rE_and, rE_or, rE_not, rE_ife, rE_idx, rE_slc, rE_rev, rE_tup, rE_lst, rE_dic, rE_call, rE_callk, rE_isI, rE_blt, rE_rng, rE_mth, rE_lc, rT_and, rT_or, rT_not, rT_cmp, rT_chn, rT_bl, rT_var, rT_call, rT_isI, rT_blt, rA_nil, rA_cons, rA_star, rTs_nil, rTs_one, rO_no, rO_yes, rI_of, rI_rng, rI_enm, rI_ez, rI_zip, rG_name, rG_tup, rG_sub, rGs_nil, rGs_cons, rS_asg, rS_par, rS_ex, rS_ret, rS_retN, rS_ife, rS_for, rS_whl, rS_never, rS_pass, rS_brk, rS_cont, rSs_nil, rSs_cons, o_add_i, o_sub_i, o_mul_i, o_fdiv_i, o_mod_i, o_pow_i, o_add_t, o_add_s, o_add_r, c_lt_i, c_le_i, c_gt_i, c_ge_i, i_tup, i_rl, i_ref, s_tup, s_rl, s_ref, r_tup, q_tup, q_rl, q_ref, l_rl, l_ref, t_append, t_extend, t_pop, m_append, m_extend, m_pop, st_ref, it_tup, it_rl, it_ref, rg_1, rg_2, z_2, z_3, dw_nil, dw_cons, b_abs, b_int, b_intb, b_stri, b_lent, b_lenr, b_lenl, b_tuple, b_list, b_all, b_any, b_sum, b_max, b_min, List.getElem?_cons_zero, List.getElem?_cons_succ, List.set_cons_zero, List.set_cons_succ, ex_some, ex_bl, ex_int, Bool.false_eq_true, if_false, if_true, Tgs.len, DL.Tgs.len]
  rw [wL_int]
  refine ⟨size_of (by simp), cne_tI (m := []) ?_⟩
  rw [← wL_int]
  by_cases hw0 : w = []
  · subst hw0
    simp only [List.map_nil, decide_true, Bool.not_true, rE_var, rE_int, rE_str, rE_bl, rE_non, rE_glo, rE_bin, rE_neg, rE_cmp, rE_chn, rE_and, rE_or, rE_not, rE_ife, rE_idx, rE_slc, rE_rev, rE_tup, rE_lst, rE_dic, rE_call, rE_callk, rE_isI, rE_blt, rE_rng, rE_mth, rE_lc, rT_and, rT_or, rT_not, rT_cmp, rT_chn, rT_bl, rT_var, rT_call, rT_isI, rT_blt, rA_nil, rA_cons, rA_star, rTs_nil, rTs_one, rO_no, rO_yes, rI_of, rI_rng, rI_enm, rI_ez, rI_zip, rG_name, rG_tup, rG_sub, rGs_nil, rGs_cons, rS_asg, rS_par, rS_ex, rS_ret, rS_retN, rS_ife, rS_for, rS_whl, rS_never, rS_pass, rS_brk, rS_cont, rSs_nil, rSs_cons, o_add_i, o_sub_i, o_mul_i, o_fdiv_i, o_mod_i, o_pow_i, o_add_t, o_add_s, o_add_r, c_lt_i, c_le_i, c_gt_i, c_ge_i, i_tup, i_rl, i_ref, s_tup, s_rl, s_ref, r_tup, q_tup, q_rl, q_ref, l_rl, l_ref, t_append, t_extend, t_pop, m_append, m_extend, m_pop, st_ref, it_tup, it_rl, it_ref, rg_1, rg_2, z_2, z_3, dw_nil, dw_cons, b_abs, b_int, b_intb, b_stri, b_lent, b_lenr, b_lenl, b_tuple, b_list, b_all, b_any, b_sum, b_max, b_min, List.getElem?_cons_zero, List.getElem?_cons_succ, List.set_cons_zero, List.set_cons_succ, ex_some, ex_bl, ex_int, Bool.false_eq_true, if_false, if_true, Tgs.len, DL.Tgs.len]
    exact menu η c _ _ hp (by omega) Fr.refl
  · have d0 : decide ((w.map fun (a : Nat) => (a : Int)) = []) = false := by
      rw [decide_eq_false_iff_not, List.map_eq_nil_iff]; exact hw0
    simp only [d0, Bool.not_false, rE_var, rE_int, rE_str, rE_bl, rE_non, rE_glo, rE_bin, rE_neg, rE_cmp, rE_chn, rE_and, rE_or, rE_not, rE_ife, rE_idx, rE_slc, rE_rev, rE_tup, rE_lst, rE_dic, rE_call, rE_callk, rE_isI, rE_blt, rE_rng, rE_mth, rE_lc, rT_and, rT_or, rT_not, rT_cmp, rT_chn, rT_bl, rT_var, rT_call, rT_isI, rT_blt, rA_nil, rA_cons, rA_star, rTs_nil, rTs_one, rO_no, rO_yes, rI_of, rI_rng, rI_enm, rI_ez, rI_zip, rG_name, rG_tup, rG_sub, rGs_nil, rGs_cons, rS_asg, rS_par, rS_ex, rS_ret, rS_retN, rS_ife, rS_for, rS_whl, rS_never, rS_pass, rS_brk, rS_cont, rSs_nil, rSs_cons, o_add_i, o_sub_i, o_mul_i, o_fdiv_i, o_mod_i, o_pow_i, o_add_t, o_add_s, o_add_r, c_lt_i, c_le_i, c_gt_i, c_ge_i, i_tup, i_rl, i_ref, s_tup, s_rl, s_ref, r_tup, q_tup, q_rl, q_ref, l_rl, l_ref, t_append, t_extend, t_pop, m_append, m_extend, m_pop, st_ref, it_tup, it_rl, it_ref, rg_1, rg_2, z_2, z_3, dw_nil, dw_cons, b_abs, b_int, b_intb, b_stri, b_lent, b_lenr, b_lenl, b_tuple, b_list, b_all, b_any, b_sum, b_max, b_min, List.getElem?_cons_zero, List.getElem?_cons_succ, List.set_cons_zero, List.set_cons_succ, ex_some, ex_bl, ex_int, Bool.false_eq_true, if_false, if_true, Tgs.len, DL.Tgs.len]
    have hpos : 0 < w.length := List.length_pos_iff.mpr hw0
    refine law_take hp (by decide) (by decide) (by omega) fun r η1 hr0 hr1 hp1 fr1 => ?_
    simp only [rE_var, rE_int, rE_str, rE_bl, rE_non, rE_glo, rE_bin, rE_neg, rE_cmp, rE_chn, rE_and, rE_or, rE_not, rE_ife, rE_idx, rE_slc, rE_rev, rE_tup, rE_lst, rE_dic, rE_call, rE_callk, rE_isI, rE_blt, rE_rng, rE_mth, rE_lc, rT_and, rT_or, rT_not, rT_cmp, rT_chn, rT_bl, rT_var, rT_call, rT_isI, rT_blt, rA_nil, rA_cons, rA_star, rTs_nil, rTs_one, rO_no, rO_yes, rI_of, rI_rng, rI_enm, rI_ez, rI_zip, rG_name, rG_tup, rG_sub, rGs_nil, rGs_cons, rS_asg, rS_par, rS_ex, rS_ret, rS_retN, rS_ife, rS_for, rS_whl, rS_never, rS_pass, rS_brk, rS_cont, rSs_nil, rSs_cons, o_add_i, o_sub_i, o_mul_i, o_fdiv_i, o_mod_i, o_pow_i, o_add_t, o_add_s, o_add_r, c_lt_i, c_le_i, c_gt_i, c_ge_i, i_tup, i_rl, i_ref, s_tup, s_rl, s_ref, r_tup, q_tup, q_rl, q_ref, l_rl, l_ref, t_append, t_extend, t_pop, m_append, m_extend, m_pop, st_ref, it_tup, it_rl, it_ref, rg_1, rg_2, z_2, z_3, dw_nil, dw_cons, b_abs, b_int, b_intb, b_stri, b_lent, b_lenr, b_lenl, b_tuple, b_list, b_all, b_any, b_sum, b_max, b_min, List.getElem?_cons_zero, List.getElem?_cons_succ, List.set_cons_zero, List.set_cons_succ, ex_some, ex_bl, ex_int, Bool.false_eq_true, if_false, if_true, Tgs.len, DL.Tgs.len]
    by_cases hr : 0 < r
    · simp only [hr, decide_true, rE_var, rE_int, rE_str, rE_bl, rE_non, rE_glo, rE_bin, rE_neg, rE_cmp, rE_chn, rE_and, rE_or, rE_not, rE_ife, rE_idx, rE_slc, rE_rev, rE_tup, rE_lst, rE_dic, rE_call, rE_callk, rE_isI, rE_blt, rE_rng, rE_mth, rE_lc, rT_and, rT_or, rT_not, rT_cmp, rT_chn, rT_bl, rT_var, rT_call, rT_isI, rT_blt, rA_nil, rA_cons, rA_star, rTs_nil, rTs_one, rO_no, rO_yes, rI_of, rI_rng, rI_enm, rI_ez, rI_zip, rG_name, rG_tup, rG_sub, rGs_nil, rGs_cons, rS_asg, rS_par, rS_ex, rS_ret, rS_retN, rS_ife, rS_for, rS_whl, rS_never, rS_pass, rS_brk, rS_cont, rSs_nil, rSs_cons, o_add_i, o_sub_i, o_mul_i, o_fdiv_i, o_mod_i, o_pow_i, o_add_t, o_add_s, o_add_r, c_lt_i, c_le_i, c_gt_i, c_ge_i, i_tup, i_rl, i_ref, s_tup, s_rl, s_ref, r_tup, q_tup, q_rl, q_ref, l_rl, l_ref, t_append, t_extend, t_pop, m_append, m_extend, m_pop, st_ref, it_tup, it_rl, it_ref, rg_1, rg_2, z_2, z_3, dw_nil, dw_cons, b_abs, b_int, b_intb, b_stri, b_lent, b_lenr, b_lenl, b_tuple, b_list, b_all, b_any, b_sum, b_max, b_min, List.getElem?_cons_zero, List.getElem?_cons_succ, List.set_cons_zero, List.set_cons_succ, ex_some, ex_bl, ex_int, Bool.false_eq_true, if_false, if_true, Tgs.len, DL.Tgs.len]
      refine law_take hp1 (by decide) (by decide) (by omega) fun way η2 hw0 hw1 hp2 fr2 => ?_
      refine ⟨_, rfl, η2, Sub.refl _, law_take hp2 (by rw [hwl]; omega) (by rw [hwl]; omega) (by omega) fun at' η3 ha0 ha1 hp3 fr3 => ?_⟩
      rw [hwl] at ha1
      obtain ⟨k, rfl⟩ : ∃ k : Nat, at' = (k : Int) := ⟨at'.toNat, by omega⟩
      have hk : k < w.length := by omega
      have e1 : ((k : Int) + 1) = ((k + 1 : Nat) : Int) := by omega
      have frs := fr1.trans (fr2.trans fr3)
      have hka : w[k]? = some w[k] := List.getElem?_eq_getElem hk
      simp only [rE_var, rE_int, rE_str, rE_bl, rE_non, rE_glo, rE_bin, rE_neg, rE_cmp, rE_chn, rE_and, rE_or, rE_not, rE_ife, rE_idx, rE_slc, rE_rev, rE_tup, rE_lst, rE_dic, rE_call, rE_callk, rE_isI, rE_blt, rE_rng, rE_mth, rE_lc, rT_and, rT_or, rT_not, rT_cmp, rT_chn, rT_bl, rT_var, rT_call, rT_isI, rT_blt, rA_nil, rA_cons, rA_star, rTs_nil, rTs_one, rO_no, rO_yes, rI_of, rI_rng, rI_enm, rI_ez, rI_zip, rG_name, rG_tup, rG_sub, rGs_nil, rGs_cons, rS_asg, rS_par, rS_ex, rS_ret, rS_retN, rS_ife, rS_for, rS_whl, rS_never, rS_pass, rS_brk, rS_cont, rSs_nil, rSs_cons, o_add_i, o_sub_i, o_mul_i, o_fdiv_i, o_mod_i, o_pow_i, o_add_t, o_add_s, o_add_r, c_lt_i, c_le_i, c_gt_i, c_ge_i, i_tup, i_rl, i_ref, s_tup, s_rl, s_ref, r_tup, q_tup, q_rl, q_ref, l_rl, l_ref, t_append, t_extend, t_pop, m_append, m_extend, m_pop, st_ref, it_tup, it_rl, it_ref, rg_1, rg_2, z_2, z_3, dw_nil, dw_cons, b_abs, b_int, b_intb, b_stri, b_lent, b_lenr, b_lenl, b_tuple, b_list, b_all, b_any, b_sum, b_max, b_min, List.getElem?_cons_zero, List.getElem?_cons_succ, List.set_cons_zero, List.set_cons_succ, ex_some, ex_bl, ex_int, Bool.false_eq_true, if_false, if_true, Tgs.len, DL.Tgs.len]
      by_cases hwy : way < 4
      · simp only [hwy, decide_true, rE_var, rE_int, rE_str, rE_bl, rE_non, rE_glo, rE_bin, rE_neg, rE_cmp, rE_chn, rE_and, rE_or, rE_not, rE_ife, rE_idx, rE_slc, rE_rev, rE_tup, rE_lst, rE_dic, rE_call, rE_callk, rE_isI, rE_blt, rE_rng, rE_mth, rE_lc, rT_and, rT_or, rT_not, rT_cmp, rT_chn, rT_bl, rT_var, rT_call, rT_isI, rT_blt, rA_nil, rA_cons, rA_star, rTs_nil, rTs_one, rO_no, rO_yes, rI_of, rI_rng, rI_enm, rI_ez, rI_zip, rG_name, rG_tup, rG_sub, rGs_nil, rGs_cons, rS_asg, rS_par, rS_ex, rS_ret, rS_retN, rS_ife, rS_for, rS_whl, rS_never, rS_pass, rS_brk, rS_cont, rSs_nil, rSs_cons, o_add_i, o_sub_i, o_mul_i, o_fdiv_i, o_mod_i, o_pow_i, o_add_t, o_add_s, o_add_r, c_lt_i, c_le_i, c_gt_i, c_ge_i, i_tup, i_rl, i_ref, s_tup, s_rl, s_ref, r_tup, q_tup, q_rl, q_ref, l_rl, l_ref, t_append, t_extend, t_pop, m_append, m_extend, m_pop, st_ref, it_tup, it_rl, it_ref, rg_1, rg_2, z_2, z_3, dw_nil, dw_cons, b_abs, b_int, b_intb, b_stri, b_lent, b_lenr, b_lenl, b_tuple, b_list, b_all, b_any, b_sum, b_max, b_min, List.getElem?_cons_zero, List.getElem?_cons_succ, List.set_cons_zero, List.set_cons_succ, ex_some, ex_bl, ex_int, Bool.false_eq_true, if_false, if_true, Tgs.len, DL.Tgs.len]
        refine ⟨_, atI_nat (get_wL hka), law_bent_int (hl _ (List.getElem_mem hk)) hp3 (by omega) fun d η4 hd4 hp4 fr4 => ?_⟩
        try simp only [rE_var, rE_int, rE_str, rE_bl, rE_non, rE_glo, rE_bin, rE_neg, rE_cmp, rE_chn, rE_and, rE_or, rE_not, rE_ife, rE_idx, rE_slc, rE_rev, rE_tup, rE_lst, rE_dic, rE_call, rE_callk, rE_isI, rE_blt, rE_rng, rE_mth, rE_lc, rT_and, rT_or, rT_not, rT_cmp, rT_chn, rT_bl, rT_var, rT_call, rT_isI, rT_blt, rA_nil, rA_cons, rA_star, rTs_nil, rTs_one, rO_no, rO_yes, rI_of, rI_rng, rI_enm, rI_ez, rI_zip, rG_name, rG_tup, rG_sub, rGs_nil, rGs_cons, rS_asg, rS_par, rS_ex, rS_ret, rS_retN, rS_ife, rS_for, rS_whl, rS_never, rS_pass, rS_brk, rS_cont, rSs_nil, rSs_cons, o_add_i, o_sub_i, o_mul_i, o_fdiv_i, o_mod_i, o_pow_i, o_add_t, o_add_s, o_add_r, c_lt_i, c_le_i, c_gt_i, c_ge_i, i_tup, i_rl, i_ref, s_tup, s_rl, s_ref, r_tup, q_tup, q_rl, q_ref, l_rl, l_ref, t_append, t_extend, t_pop, m_append, m_extend, m_pop, st_ref, it_tup, it_rl, it_ref, rg_1, rg_2, z_2, z_3, dw_nil, dw_cons, b_abs, b_int, b_intb, b_stri, b_lent, b_lenr, b_lenl, b_tuple, b_list, b_all, b_any, b_sum, b_max, b_min, List.getElem?_cons_zero, List.getElem?_cons_succ, List.set_cons_zero, List.set_cons_succ, ex_some, ex_bl, ex_int, Bool.false_eq_true, if_false, if_true, Tgs.len, DL.Tgs.len]
        rw [cut_to, e1, cut_from]
        refine ⟨size_of (by simp), ?_, ?_, ret_of (h _ η4 (.tup _ ?_ ?_) (fun a e => by cases e) (hp4.mono (by omega)) (frs.trans fr4))⟩
        · rw [List.length_take, hwl]; exact size_of (by simp; omega)
        · simp only [List.length_append, List.length_take, List.length_drop, List.length_cons, List.length_nil, hwl]; exact size_of (by omega)
        · simp only [List.length_append, List.length_take, List.length_drop, List.length_cons, List.length_nil, hwl]; omega
        · intro x hx
          rcases List.mem_append.mp hx with hx | hx
          · rcases List.mem_append.mp hx with hx | hx
            · exact hi x (List.mem_of_mem_take hx)
            · rw [List.mem_singleton] at hx; subst hx; exact hd4
          · exact hi x (List.mem_of_mem_drop hx)
      · simp only [hwy, decide_false, rE_var, rE_int, rE_str, rE_bl, rE_non, rE_glo, rE_bin, rE_neg, rE_cmp, rE_chn, rE_and, rE_or, rE_not, rE_ife, rE_idx, rE_slc, rE_rev, rE_tup, rE_lst, rE_dic, rE_call, rE_callk, rE_isI, rE_blt, rE_rng, rE_mth, rE_lc, rT_and, rT_or, rT_not, rT_cmp, rT_chn, rT_bl, rT_var, rT_call, rT_isI, rT_blt, rA_nil, rA_cons, rA_star, rTs_nil, rTs_one, rO_no, rO_yes, rI_of, rI_rng, rI_enm, rI_ez, rI_zip, rG_name, rG_tup, rG_sub, rGs_nil, rGs_cons, rS_asg, rS_par, rS_ex, rS_ret, rS_retN, rS_ife, rS_for, rS_whl, rS_never, rS_pass, rS_brk, rS_cont, rSs_nil, rSs_cons, o_add_i, o_sub_i, o_mul_i, o_fdiv_i, o_mod_i, o_pow_i, o_add_t, o_add_s, o_add_r, c_lt_i, c_le_i, c_gt_i, c_ge_i, i_tup, i_rl, i_ref, s_tup, s_rl, s_ref, r_tup, q_tup, q_rl, q_ref, l_rl, l_ref, t_append, t_extend, t_pop, m_append, m_extend, m_pop, st_ref, it_tup, it_rl, it_ref, rg_1, rg_2, z_2, z_3, dw_nil, dw_cons, b_abs, b_int, b_intb, b_stri, b_lent, b_lenr, b_lenl, b_tuple, b_list, b_all, b_any, b_sum, b_max, b_min, List.getElem?_cons_zero, List.getElem?_cons_succ, List.set_cons_zero, List.set_cons_succ, ex_some, ex_bl, ex_int, Bool.false_eq_true, if_false, if_true, Tgs.len, DL.Tgs.len]
        rw [cut_to, e1, cut_from, cut_to, cut_from]
        refine ⟨?_, ?_, wL w, rfl, fun q1 hq1 => ⟨_, Sub.refl _, size_of (by simp), fun q2 hq2 => ?_⟩⟩
        · simp only [List.length_take, List.length_drop, hwl]; exact size_of (by omega)
        · simp only [List.length_take, List.length_drop, hwl]; exact size_of (by omega)
        have hq1v : Val p (put (put η3 q1 (.lst (wL w))) q2 (.lst [D.tup (List.take k (wL w) ++ List.drop (k + 1) (wL w)), D.tup (List.take (k + 1) (wL w) ++ List.drop k (wL w)), D.tup (wL w).reverse, D.ref q1])) (.ref q1) := by
          have n12 : q1 ≠ q2 := ne_fresh put_same hq2
          exact .lst q1 (wL w) (hp3.ne hq1) (by rw [put_ne n12, put_same]) (by omega) hi
        have key : ∀ i : Fin 4, Val p (put (put η3 q1 (.lst (wL w))) q2 (.lst [D.tup (List.take k (wL w) ++ List.drop (k + 1) (wL w)), D.tup (List.take (k + 1) (wL w) ++ List.drop k (wL w)), D.tup (wL w).reverse, D.ref q1])) ([D.tup (List.take k (wL w) ++ List.drop (k + 1) (wL w)), D.tup (List.take (k + 1) (wL w) ++ List.drop k (wL w)), D.tup (wL w).reverse, D.ref q1][i.val]'(by have := i.isLt; simpa using this)) := by
          intro i
          match i with
          | 0 =>
            refine .tup _ ?_ fun x hx => ?_
            · simp only [List.length_append, List.length_take, List.length_drop, hwl]; omega
            · rcases List.mem_append.mp hx with hx | hx
              · exact hi x (List.mem_of_mem_take hx)
              · exact hi x (List.mem_of_mem_drop hx)
          | 1 =>
            refine .tup _ ?_ fun x hx => ?_
            · simp only [List.length_append, List.length_take, List.length_drop, hwl]; omega
            · rcases List.mem_append.mp hx with hx | hx
              · exact hi x (List.mem_of_mem_take hx)
              · exact hi x (List.mem_of_mem_drop hx)
          | 2 =>
            refine .tup _ ?_ fun x hx => ?_
            · rw [List.length_reverse, hwl]; omega
            · exact hi x (List.mem_reverse.mp hx)
          | 3 => exact hq1v
        have old1 := frs.none (hp3.ne hq1) hq1
        have key2 : ∀ i : Fin 4, ∀ a, ([D.tup (List.take k (wL w) ++ List.drop (k + 1) (wL w)), D.tup (List.take (k + 1) (wL w) ++ List.drop k (wL w)), D.tup (wL w).reverse, D.ref q1][i.val]'(by have := i.isLt; simpa using this)) = .ref a → η a = none := by
          intro i a e
          match i with
          | 0 => cases e
          | 1 => cases e
          | 2 => cases e
          | 3 => cases e; exact old1
        obtain ⟨j, hj⟩ : ∃ j : Fin 4, way - 4 = ((j.val : Nat) : Int) := ⟨⟨(way - 4).toNat, by omega⟩, by show way - 4 = (((way - 4).toNat : Nat) : Int); omega⟩
        rw [hj]
        refine ⟨_, _, put_same, atI_nat (List.getElem?_eq_getElem (by have := j.isLt; simpa using this)), ret_of (h _ _ (key j) (key2 j) (((hp3.new hq1).new hq2).mono (by omega)) (frs.trans ((Fr.new hq1).trans (Fr.new hq2))))⟩
    · simp only [hr, decide_false, rE_var, rE_int, rE_str, rE_bl, rE_non, rE_glo, rE_bin, rE_neg, rE_cmp, rE_chn, rE_and, rE_or, rE_not, rE_ife, rE_idx, rE_slc, rE_rev, rE_tup, rE_lst, rE_dic, rE_call, rE_callk, rE_isI, rE_blt, rE_rng, rE_mth, rE_lc, rT_and, rT_or, rT_not, rT_cmp, rT_chn, rT_bl, rT_var, rT_call, rT_isI, rT_blt, rA_nil, rA_cons, rA_star, rTs_nil, rTs_one, rO_no, rO_yes, rI_of, rI_rng, rI_enm, rI_ez, rI_zip, rG_name, rG_tup, rG_sub, rGs_nil, rGs_cons, rS_asg, rS_par, rS_ex, rS_ret, rS_retN, rS_ife, rS_for, rS_whl, rS_never, rS_pass, rS_brk, rS_cont, rSs_nil, rSs_cons, o_add_i, o_sub_i, o_mul_i, o_fdiv_i, o_mod_i, o_pow_i, o_add_t, o_add_s, o_add_r, c_lt_i, c_le_i, c_gt_i, c_ge_i, i_tup, i_rl, i_ref, s_tup, s_rl, s_ref, r_tup, q_tup, q_rl, q_ref, l_rl, l_ref, t_append, t_extend, t_pop, m_append, m_extend, m_pop, st_ref, it_tup, it_rl, it_ref, rg_1, rg_2, z_2, z_3, dw_nil, dw_cons, b_abs, b_int, b_intb, b_stri, b_lent, b_lenr, b_lenl, b_tuple, b_list, b_all, b_any, b_sum, b_max, b_min, List.getElem?_cons_zero, List.getElem?_cons_succ, List.set_cons_zero, List.set_cons_succ, ex_some, ex_bl, ex_int, Bool.false_eq_true, if_false, if_true, Tgs.len, DL.Tgs.len]
      exact menu η1 (c + 1) _ _ hp1 (by omega) fr1
end
end K43

set_option Elab.async false
set_option linter.all false
set_option maxRecDepth 100000
set_option maxHeartbeats 4000000
/-! K43J: the word that the law draws. -/
namespace K43
open PySem PySem.Spec PyProof.Rows L2 DL
/-- pairs in rising order -/
def nin : List Int → Nat
  | [] => 0
  | a :: l => l.countP (fun b => decide (a < b)) + nin l
theorem nin_swap (p q : List Int) (a b : Int) (h : a < b) : nin (p ++ a :: b :: q) = nin (p ++ b :: a :: q) + 1 := by
  induction p with
  | nil =>
    have h2 : ¬ b < a := by omega
    simp only [List.nil_append, nin, List.countP_cons, h, h2, decide_true, decide_false, if_true, Bool.false_eq_true, if_false]
    omega
  | cons c p ih =>
    simp only [List.cons_append, nin, ih, List.countP_append, List.countP_cons]
    omega
theorem nin_ex {r : List Int} {i : Nat} {a b : Int} (ha : r[i]? = some a) (hb : r[i + 1]? = some b) (h : a < b) : nin r = nin (ex r i) + 1 := by
  have e : r = r.take i ++ a :: b :: r.drop (i + 2) := by
    have h1 := (List.getElem?_eq_some_iff.mp ha)
    have h2 := (List.getElem?_eq_some_iff.mp hb)
    obtain ⟨l1, e1⟩ := h1
    obtain ⟨l2, e2⟩ := h2
    have := List.take_append_drop i r
    rw [List.drop_eq_getElem_cons l1, List.drop_eq_getElem_cons l2, e1, e2] at this
    exact this.symm
  rw [ex_of ha hb]
  conv => lhs; rw [e]
  exact nin_swap _ _ _ _ h
theorem ex_perm (r : List Int) (i : Nat) : (ex r i).Perm r := by
  unfold ex
  cases ha : r[i]? with
  | none => exact .refl _
  | some a =>
    cases hb : r[i + 1]? with
    | none => exact .refl _
    | some b =>
      simp only
      obtain ⟨l1, e1⟩ := List.getElem?_eq_some_iff.mp ha
      obtain ⟨l2, e2⟩ := List.getElem?_eq_some_iff.mp hb
      have := List.take_append_drop i r
      rw [List.drop_eq_getElem_cons l1, List.drop_eq_getElem_cons l2, e1, e2] at this
      have k : (r.take i ++ (b :: a :: r.drop (i + 2))).Perm (r.take i ++ (a :: b :: r.drop (i + 2))) := List.Perm.append_left _ (List.Perm.swap ..)
      exact k.trans (List.Perm.of_eq this)
theorem lastF_perm (w : List Nat) : ∀ r : List Int, (lastF r w).Perm r := by
  induction w with
  | nil => exact fun r => .refl _
  | cons a w ih => exact fun r => (ih (ex r a)).trans (ex_perm r a)
def NoAsc (r : List Int) : Prop := ∀ (i : Nat) (a b : Int), r[i]? = some a → r[i + 1]? = some b → ¬ a < b
theorem NoAsc.le {r : List Int} (h : NoAsc r) : r.Pairwise (fun a b => b ≤ a) := by
  induction r with
  | nil => exact .nil
  | cons a l ih =>
    have ht : NoAsc l := fun i x y e1 e2 => h (i + 1) x y (by simpa using e1) (by simpa using e2)
    have hp := ih ht
    refine List.pairwise_cons.mpr ⟨fun x hx => ?_, hp⟩
    cases l with
    | nil => cases hx
    | cons b l =>
      have hab : b ≤ a := by have := h 0 a b rfl rfl; omega
      rcases List.mem_cons.mp hx with e | e
      · subst e; exact hab
      · have := (List.pairwise_cons.mp hp).1 x e; omega
theorem nin_pair {r : List Int} (h : nin r = 0) : r.Pairwise (fun a b => b ≤ a) := by
  induction r with
  | nil => exact .nil
  | cons a l ih =>
    simp only [nin, Nat.add_eq_zero_iff] at h
    refine List.pairwise_cons.mpr ⟨fun x hx => ?_, ih h.2⟩
    have := List.countP_eq_zero.mp h.1 x hx
    simp at this
    exact this
theorem pair_nin {r : List Int} (h : r.Pairwise (fun a b => b ≤ a)) : nin r = 0 := by
  induction r with
  | nil => rfl
  | cons a l ih =>
    obtain ⟨h1, h2⟩ := List.pairwise_cons.mp h
    simp only [nin, Nat.add_eq_zero_iff]
    refine ⟨List.countP_eq_zero.mpr fun x hx => ?_, ih h2⟩
    have := h1 x hx
    simp
    exact this
theorem pair_eq : ∀ {r s : List Int}, r.Pairwise (fun a b => b ≤ a) → s.Pairwise (fun a b => b ≤ a) → r.Perm s → r = s
  | [], s, _, _, p => (List.nil_perm.mp p).symm
  | a :: r, [], _, _, p => absurd p.length_eq (by simp)
  | a :: r, b :: s, h1, h2, p => by
    obtain ⟨k1, k2⟩ := List.pairwise_cons.mp h1
    obtain ⟨k3, k4⟩ := List.pairwise_cons.mp h2
    have e : a = b := by
      have ma : a ∈ b :: s := p.mem_iff.mp List.mem_cons_self
      have mb : b ∈ a :: r := p.mem_iff.mpr List.mem_cons_self
      have g1 : a ≤ b := by
        rcases List.mem_cons.mp ma with e | e
        · omega
        · exact k3 a e
      have g2 : b ≤ a := by
        rcases List.mem_cons.mp mb with e | e
        · omega
        · exact k1 b e
      omega
    subst e
    rw [pair_eq k2 k4 (List.Perm.cons_inv p)]
theorem nin_rg : ∀ m : Fin 10, nin (rg m.val) = tri m.val ∧ nin (rg m.val).reverse = 0 := by decide +kernel
theorem gw_of {m : Nat} {w : List Nat} (h9 : m ≤ 9) (hl : w.length = tri m) (hw : ∀ a ∈ w, a + 1 < m) (h0 : nin (lastF (rg m) w) = 0) : GW m w :=
  ⟨hl, hw, pair_eq (nin_pair h0) (nin_pair (nin_rg ⟨m, by omega⟩).2) ((lastF_perm w _).trans (List.reverse_perm _).symm)⟩
theorem has_asc {r : List Int} (h : 0 < nin r) : ∃ (i : Nat) (a b : Int), r[i]? = some a ∧ r[i + 1]? = some b ∧ a < b := by
  apply Classical.byContradiction
  intro hn
  have : NoAsc r := fun i a b e1 e2 hab => hn ⟨i, a, b, e1, e2, hab⟩
  have := pair_nin this.le
  omega
theorem lastF_app' (r : List Int) (v : List Nat) (k : Nat) : lastF r (v ++ [k]) = ex (lastF r v) k := by
  unfold lastF; rw [List.foldl_append]; rfl
/-- the law's test of a place -/
def asc (r : List Int) : D → Option D
  | .int i => match r[i.toNat]?, r[i.toNat + 1]? with
    | some a, some b => if a < b then some (.int i) else none
    | _, _ => none
  | _ => none
theorem asc_mem {r : List Int} {k : Nat} {x : D} (h : x ∈ ((rg k).map D.int).filterMap (asc r)) : ∃ (i : Nat) (a b : Int), x = .int (i : Int) ∧ i < k ∧ r[i]? = some a ∧ r[i + 1]? = some b ∧ a < b := by
  obtain ⟨y, hy, e⟩ := List.mem_filterMap.mp h
  obtain ⟨z, hz, rfl⟩ := List.mem_map.mp hy
  unfold rg at hz
  obtain ⟨i, hi, rfl⟩ := List.mem_map.mp hz
  have hi' := List.mem_range.mp hi
  unfold asc at e
  simp only [Int.toNat_natCast] at e
  cases ha : r[i]? with
  | none => rw [ha] at e; cases e
  | some a =>
    cases hb : r[i + 1]? with
    | none => rw [ha, hb] at e; cases e
    | some b =>
      rw [ha, hb] at e
      simp only at e
      by_cases hab : a < b
      · rw [if_pos hab] at e
        exact ⟨i, a, b, (Option.some.inj e).symm, hi', ha, hb, hab⟩
      · rw [if_neg hab] at e; cases e
theorem asc_ne {r : List Int} {k : Nat} (hk : r.length ≤ k + 1) (h : 0 < nin r) : ((rg k).map D.int).filterMap (asc r) ≠ [] := by
  obtain ⟨i, a, b, ha, hb, hab⟩ := has_asc h
  have hi : i < k := by have := (List.getElem?_eq_some_iff.mp hb).1; omega
  intro e
  have : D.int (i : Int) ∈ ((rg k).map D.int).filterMap (asc r) := by
    refine List.mem_filterMap.mpr ⟨.int (i : Int), List.mem_map.mpr ⟨(i : Int), ?_, rfl⟩, ?_⟩
    · unfold rg; exact List.mem_map.mpr ⟨i, List.mem_range.mpr hi, rfl⟩
    · unfold asc
      simp only [Int.toNat_natCast, ha, hb, if_pos hab]
  rw [e] at this
  cases this
section
variable {n : Nat} {η : Sto} {Q : DK}
theorem law_word {p : Addr} {m c : Nat} (h1 : 1 ≤ m) (h9 : m ≤ 9) (hp : Pot η p c) (hc : c ≤ 100000) (h : ∀ w η', GW m w → Pot η' p (c + 36) → Fr p η η' → Q (wD w) η') : CC (n + 3) (S "_law_word") [.ref p, .int (m : Int)] η Q := by
  refine u__law_word ?_
  simp only [o__law_word, rE_var, rE_int, rE_str, rE_bl, rE_non, rE_glo, rE_bin, rE_neg, rE_cmp, rE_chn, rE_and, rE_or, rE_not, rE_ife, rE_idx, rE_slc, rE_rev, rE_tup, rE_lst, rE_dic, rE_call, rE_callk, rE_isI, rE_blt, rE_rng, rE_mth, rE_lc, rT_and, rT_or, rT_not, rT_cmp, rT_chn, rT_bl, rT_var, rT_call, rT_isI, rT_blt, rA_nil, rA_cons, rA_star, rTs_nil, rTs_one, rO_no, rO_yes, rI_of, rI_rng, rI_enm, rI_ez, rI_zip, rG_name, rG_tup, rG_sub, rGs_nil, rGs_cons, rS_asg, rS_par, rS_ex, rS_ret, rS_retN, rS_ife, rS_for, rS_whl, rS_never, rS_pass, rS_brk, rS_cont, rSs_nil, rSs_cons, o_add_i, o_sub_i, o_mul_i, o_fdiv_i, o_mod_i, o_pow_i, o_add_t, o_add_s, o_add_r, c_lt_i, c_le_i, c_gt_i, c_ge_i, i_tup, i_rl, i_ref, s_tup, s_rl, s_ref, r_tup, q_tup, q_rl, q_ref, l_rl, l_ref, t_append, t_extend, t_pop, m_append, m_extend, m_pop, st_ref, it_tup, it_rl, it_ref, rg_1, rg_2, z_2, z_3, dw_nil, dw_cons, b_abs, b_int, b_intb, b_stri, b_lent, b_lenr, b_lenl, b_tuple, b_list, b_all, b_any, b_sum, b_max, b_min, List.getElem?_cons_zero, List.getElem?_cons_succ, List.set_cons_zero, List.set_cons_succ, ex_some, ex_bl, ex_int, Bool.false_eq_true, if_false, if_true, Tgs.len, DL.Tgs.len]
  refine ⟨inR_nat (by omega), size_of (by omega), fun ra hra => ⟨size_of (by simp), fun fa hfa => ⟨size_of (by simp), _, rfl, rfl, _, _, rfl, _, _, rfl, rfl, mul_l (by omega), ⟨by decide, by decide⟩, ?_⟩⟩⟩
  have etri : (m : Int) * ((m : Int) - 1) / 2 = ((tri m : Nat) : Int) := tri_int h1
  have htri := tri_le h9
  rw [rgD_rg] at hfa
  rw [etri, rgD_rg, rgD_rg]
  refine ⟨inR_nat (by omega), ?_⟩
  have nra : ra ≠ p := hp.ne hra
  have hp1 := hp.new (o := .lst ((rg m).map .int)) hra
  have nfa : fa ≠ p := hp1.ne hfa
  have nrf : ra ≠ fa := ne_fresh put_same hfa
  refine for_of (rdC_mono _) (fun i δ η' => ∃ v d2 d5, v.length = i ∧ (∀ a ∈ v, a + 1 < m) ∧ nin (lastF (rg m) v) + i = tri m ∧ η' ra = some (.lst ((lastF (rg m) v).map .int)) ∧ η' fa = some (.lst (wL v)) ∧ Pot η' p (c + i) ∧ Fr p η η' ∧ δ = [some (.ref p), some (.int (m : Int)), d2, some (.ref ra), some (.ref fa), d5]) (fun i x δ η' hx hj => ?_) (fun δ η' hj => ?_) ?_
  · obtain ⟨v, d2, d5, hv, hlet, hnin, era, efa, hp2, fr2, rfl⟩ := hj
    have hi : i < tri m := by
      have := (List.getElem?_eq_some_iff.mp hx).1
      rw [List.length_map, rg_len] at this
      exact this
    refine ⟨trivial, ?_⟩
    simp only [rE_var, rE_int, rE_str, rE_bl, rE_non, rE_glo, rE_bin, rE_neg, rE_cmp, rE_chn, rE_and, rE_or, rE_not, rE_ife, rE_idx, rE_slc, rE_rev, rE_tup, rE_lst, rE_dic, rE_call, rE_callk, rE_isI, rE_blt, rE_rng, rE_mth, rE_lc, rT_and, rT_or, rT_not, rT_cmp, rT_chn, rT_bl, rT_var, rT_call, rT_isI, rT_blt, rA_nil, rA_cons, rA_star, rTs_nil, rTs_one, rO_no, rO_yes, rI_of, rI_rng, rI_enm, rI_ez, rI_zip, rG_name, rG_tup, rG_sub, rGs_nil, rGs_cons, rS_asg, rS_par, rS_ex, rS_ret, rS_retN, rS_ife, rS_for, rS_whl, rS_never, rS_pass, rS_brk, rS_cont, rSs_nil, rSs_cons, o_add_i, o_sub_i, o_mul_i, o_fdiv_i, o_mod_i, o_pow_i, o_add_t, o_add_s, o_add_r, c_lt_i, c_le_i, c_gt_i, c_ge_i, i_tup, i_rl, i_ref, s_tup, s_rl, s_ref, r_tup, q_tup, q_rl, q_ref, l_rl, l_ref, t_append, t_extend, t_pop, m_append, m_extend, m_pop, st_ref, it_tup, it_rl, it_ref, rg_1, rg_2, z_2, z_3, dw_nil, dw_cons, b_abs, b_int, b_intb, b_stri, b_lent, b_lenr, b_lenl, b_tuple, b_list, b_all, b_any, b_sum, b_max, b_min, List.getElem?_cons_zero, List.getElem?_cons_succ, List.set_cons_zero, List.set_cons_succ, ex_some, ex_bl, ex_int, Bool.false_eq_true, if_false, if_true, Tgs.len, DL.Tgs.len]
    generalize hrow : lastF (rg m) v = row at *
    have rlen : row.length = m := by rw [← hrow, lastF_len, rg_len]
    have hpos : 0 < nin row := by omega
    refine ⟨⟨by omega, by omega⟩, fun q hq => ?_⟩
    have nqra : ra ≠ q := ne_fresh era hq
    have nqfa : fa ≠ q := ne_fresh efa hq
    have em : ((m : Int) - 1) = ((m - 1 : Nat) : Int) := by omega
    rw [em, rgD_rg]
    refine lc_of (rdC_mono _) η' (asc row) (fun acc => trivial) (fun x hx acc => ?_) ?_ ?_
    · simp only [rE_var, rE_int, rE_str, rE_bl, rE_non, rE_glo, rE_bin, rE_neg, rE_cmp, rE_chn, rE_and, rE_or, rE_not, rE_ife, rE_idx, rE_slc, rE_rev, rE_tup, rE_lst, rE_dic, rE_call, rE_callk, rE_isI, rE_blt, rE_rng, rE_mth, rE_lc, rT_and, rT_or, rT_not, rT_cmp, rT_chn, rT_bl, rT_var, rT_call, rT_isI, rT_blt, rA_nil, rA_cons, rA_star, rTs_nil, rTs_one, rO_no, rO_yes, rI_of, rI_rng, rI_enm, rI_ez, rI_zip, rG_name, rG_tup, rG_sub, rGs_nil, rGs_cons, rS_asg, rS_par, rS_ex, rS_ret, rS_retN, rS_ife, rS_for, rS_whl, rS_never, rS_pass, rS_brk, rS_cont, rSs_nil, rSs_cons, o_add_i, o_sub_i, o_mul_i, o_fdiv_i, o_mod_i, o_pow_i, o_add_t, o_add_s, o_add_r, c_lt_i, c_le_i, c_gt_i, c_ge_i, i_tup, i_rl, i_ref, s_tup, s_rl, s_ref, r_tup, q_tup, q_rl, q_ref, l_rl, l_ref, t_append, t_extend, t_pop, m_append, m_extend, m_pop, st_ref, it_tup, it_rl, it_ref, rg_1, rg_2, z_2, z_3, dw_nil, dw_cons, b_abs, b_int, b_intb, b_stri, b_lent, b_lenr, b_lenl, b_tuple, b_list, b_all, b_any, b_sum, b_max, b_min, List.getElem?_cons_zero, List.getElem?_cons_succ, List.set_cons_zero, List.set_cons_succ, ex_some, ex_bl, ex_int, Bool.false_eq_true, if_false, if_true, Tgs.len, DL.Tgs.len]
      obtain ⟨z, hz, rfl⟩ := List.mem_map.mp hx
      unfold rg at hz
      obtain ⟨k, hk, rfl⟩ := List.mem_map.mp hz
      have hk' := List.mem_range.mp hk
      obtain ⟨a, ha⟩ : ∃ a, row[k]? = some a := ⟨row[k], by simp⟩
      obtain ⟨b, hb⟩ : ∃ b, row[k + 1]? = some b := ⟨row[k + 1], by simp⟩
      have e1 : ((k : Int) + 1) = ((k + 1 : Nat) : Int) := by omega
      have ha' : (row.map D.int)[k]? = some (.int a) := by rw [List.getElem?_map, ha]; rfl
      have hb' : (row.map D.int)[k + 1]? = some (.int b) := by rw [List.getElem?_map, hb]; rfl
      have erq : put η' q (.lst acc) ra = some (.lst (row.map .int)) := by rw [put_ne nqra]; exact era
      refine ⟨trivial, _, _, erq, atI_nat ha', ?_⟩
      simp only [rE_var, rE_int, rE_str, rE_bl, rE_non, rE_glo, rE_bin, rE_neg, rE_cmp, rE_chn, rE_and, rE_or, rE_not, rE_ife, rE_idx, rE_slc, rE_rev, rE_tup, rE_lst, rE_dic, rE_call, rE_callk, rE_isI, rE_blt, rE_rng, rE_mth, rE_lc, rT_and, rT_or, rT_not, rT_cmp, rT_chn, rT_bl, rT_var, rT_call, rT_isI, rT_blt, rA_nil, rA_cons, rA_star, rTs_nil, rTs_one, rO_no, rO_yes, rI_of, rI_rng, rI_enm, rI_ez, rI_zip, rG_name, rG_tup, rG_sub, rGs_nil, rGs_cons, rS_asg, rS_par, rS_ex, rS_ret, rS_retN, rS_ife, rS_for, rS_whl, rS_never, rS_pass, rS_brk, rS_cont, rSs_nil, rSs_cons, o_add_i, o_sub_i, o_mul_i, o_fdiv_i, o_mod_i, o_pow_i, o_add_t, o_add_s, o_add_r, c_lt_i, c_le_i, c_gt_i, c_ge_i, i_tup, i_rl, i_ref, s_tup, s_rl, s_ref, r_tup, q_tup, q_rl, q_ref, l_rl, l_ref, t_append, t_extend, t_pop, m_append, m_extend, m_pop, st_ref, it_tup, it_rl, it_ref, rg_1, rg_2, z_2, z_3, dw_nil, dw_cons, b_abs, b_int, b_intb, b_stri, b_lent, b_lenr, b_lenl, b_tuple, b_list, b_all, b_any, b_sum, b_max, b_min, List.getElem?_cons_zero, List.getElem?_cons_succ, List.set_cons_zero, List.set_cons_succ, ex_some, ex_bl, ex_int, Bool.false_eq_true, if_false, if_true, Tgs.len, DL.Tgs.len]
      rw [e1]
      refine ⟨_, _, erq, atI_nat hb', ?_⟩
      simp only [rE_var, rE_int, rE_str, rE_bl, rE_non, rE_glo, rE_bin, rE_neg, rE_cmp, rE_chn, rE_and, rE_or, rE_not, rE_ife, rE_idx, rE_slc, rE_rev, rE_tup, rE_lst, rE_dic, rE_call, rE_callk, rE_isI, rE_blt, rE_rng, rE_mth, rE_lc, rT_and, rT_or, rT_not, rT_cmp, rT_chn, rT_bl, rT_var, rT_call, rT_isI, rT_blt, rA_nil, rA_cons, rA_star, rTs_nil, rTs_one, rO_no, rO_yes, rI_of, rI_rng, rI_enm, rI_ez, rI_zip, rG_name, rG_tup, rG_sub, rGs_nil, rGs_cons, rS_asg, rS_par, rS_ex, rS_ret, rS_retN, rS_ife, rS_for, rS_whl, rS_never, rS_pass, rS_brk, rS_cont, rSs_nil, rSs_cons, o_add_i, o_sub_i, o_mul_i, o_fdiv_i, o_mod_i, o_pow_i, o_add_t, o_add_s, o_add_r, c_lt_i, c_le_i, c_gt_i, c_ge_i, i_tup, i_rl, i_ref, s_tup, s_rl, s_ref, r_tup, q_tup, q_rl, q_ref, l_rl, l_ref, t_append, t_extend, t_pop, m_append, m_extend, m_pop, st_ref, it_tup, it_rl, it_ref, rg_1, rg_2, z_2, z_3, dw_nil, dw_cons, b_abs, b_int, b_intb, b_stri, b_lent, b_lenr, b_lenl, b_tuple, b_list, b_all, b_any, b_sum, b_max, b_min, List.getElem?_cons_zero, List.getElem?_cons_succ, List.set_cons_zero, List.set_cons_succ, ex_some, ex_bl, ex_int, Bool.false_eq_true, if_false, if_true, Tgs.len, DL.Tgs.len]
      refine ⟨trivial, ?_⟩
      simp only [asc, Int.toNat_natCast, ha, hb]
      by_cases hab : a < b
      · exact .inr ⟨by simp [hab], by simp [hab], trivial⟩
      · exact .inl ⟨by simp [hab], by simp [hab]⟩
    · rw [List.length_map, rg_len]; exact size_of (by omega)
    · generalize hL : ((rg (m - 1)).map D.int).filterMap (asc row) = L
      have hL0 : L ≠ [] := by rw [← hL]; exact asc_ne (by omega) hpos
      have hLl : L.length ≤ 8000 := by
        rw [← hL]
        have := List.length_filterMap_le (asc row) ((rg (m - 1)).map D.int)
        rw [List.length_map, rg_len] at this
        omega
      refine law_of (hp2.new hq) put_same (hp2.ne hq) hL0 hLl (by omega) fun x η3 hx hp3 fr3 => ?_
      rw [← hL] at hx
      obtain ⟨k, a, b, rfl, hk, ha, hb, hab⟩ := asc_mem hx
      have ha' : (row.map D.int)[k]? = some (.int a) := by rw [List.getElem?_map, ha]; rfl
      have hb' : (row.map D.int)[k + 1]? = some (.int b) := by rw [List.getElem?_map, hb]; rfl
      have era3 : η3 ra = some (.lst (row.map .int)) := fr3 ra _ nra (by rw [put_ne nqra]; exact era)
      have efa3 : η3 fa = some (.lst (wL v)) := fr3 fa _ nfa (by rw [put_ne nqfa]; exact efa)
      simp only [rE_var, rE_int, rE_str, rE_bl, rE_non, rE_glo, rE_bin, rE_neg, rE_cmp, rE_chn, rE_and, rE_or, rE_not, rE_ife, rE_idx, rE_slc, rE_rev, rE_tup, rE_lst, rE_dic, rE_call, rE_callk, rE_isI, rE_blt, rE_rng, rE_mth, rE_lc, rT_and, rT_or, rT_not, rT_cmp, rT_chn, rT_bl, rT_var, rT_call, rT_isI, rT_blt, rA_nil, rA_cons, rA_star, rTs_nil, rTs_one, rO_no, rO_yes, rI_of, rI_rng, rI_enm, rI_ez, rI_zip, rG_name, rG_tup, rG_sub, rGs_nil, rGs_cons, rS_asg, rS_par, rS_ex, rS_ret, rS_retN, rS_ife, rS_for, rS_whl, rS_never, rS_pass, rS_brk, rS_cont, rSs_nil, rSs_cons, o_add_i, o_sub_i, o_mul_i, o_fdiv_i, o_mod_i, o_pow_i, o_add_t, o_add_s, o_add_r, c_lt_i, c_le_i, c_gt_i, c_ge_i, i_tup, i_rl, i_ref, s_tup, s_rl, s_ref, r_tup, q_tup, q_rl, q_ref, l_rl, l_ref, t_append, t_extend, t_pop, m_append, m_extend, m_pop, st_ref, it_tup, it_rl, it_ref, rg_1, rg_2, z_2, z_3, dw_nil, dw_cons, b_abs, b_int, b_intb, b_stri, b_lent, b_lenr, b_lenl, b_tuple, b_list, b_all, b_any, b_sum, b_max, b_min, List.getElem?_cons_zero, List.getElem?_cons_succ, List.set_cons_zero, List.set_cons_succ, ex_some, ex_bl, ex_int, Bool.false_eq_true, if_false, if_true, Tgs.len, DL.Tgs.len]
      have e1 : ((k : Int) + 1) = ((k + 1 : Nat) : Int) := by omega
      rw [e1]
      refine ⟨_, _, era3, atI_nat hb', _, _, era3, atI_nat ha', size_of (by simp), _, rfl, rfl, _, _, rfl, _, k, era3, ixN_nat (by rw [List.length_map, rlen]; omega), _, _, rfl, _, k + 1, put_same, ixN_nat (by rw [List.length_set, List.length_map, rlen]; omega), rfl, ?_⟩
      have erow : ((row.map D.int).set k (.int b)).set (k + 1) (.int a) = (ex row k).map D.int := by
        rw [← ex_set row k a b ha hb, List.map_set, List.map_set]
      rw [put_put, erow]
      have efa4 : put η3 ra (.lst ((ex row k).map .int)) fa = some (.lst (wL v)) := by rw [put_ne (Ne.symm nrf)]; exact efa3
      refine ⟨⟨_, efa4⟩, _, Sub.refl _, _, efa4, ?_, v ++ [k], _, _, ?_, ?_, ?_, ?_, ?_, ?_, ?_, rfl⟩
      · rw [wL_len, sizeLine_eq]; omega
      · rw [List.length_append]; simp [hv]
      · intro z hz
        rcases List.mem_append.mp hz with hz | hz
        · exact hlet z hz
        · rw [List.mem_singleton] at hz; omega
      · rw [lastF_app', hrow]
        have := nin_ex ha hb hab
        omega
      · rw [put_ne nrf, put_same, lastF_app', hrow]
      · rw [put_same]
        unfold wL
        rw [List.map_append]; rfl
      · have p4 : Pot (put (put η3 ra (.lst ((ex row k).map .int))) fa (.lst (wL v ++ [D.int (k : Int)]))) p (c + i + 1) := by
          obtain ⟨o1, o2, o3, eo, r⟩ := hp3
          exact ⟨o1, o2, o3, by rw [put_ne (Ne.symm nfa), put_ne (Ne.symm nra)]; exact eo, r⟩
        exact p4.mono (by omega)
      · intro y o hy e
        have h0 := (fr2.trans ((Fr.new hq).trans fr3)) y o hy e
        have y1 : y ≠ ra := ne_fresh e hra
        have y2 : y ≠ fa := ne_fresh (by rw [put_ne y1]; exact e) hfa
        rw [put_ne y2, put_ne y1]; exact h0
  · obtain ⟨v, d2, d5, hv, hlet, hnin, era, efa, hp2, fr2, rfl⟩ := hj
    rw [List.length_map, rg_len] at hv hnin hp2
    refine ⟨trivial, ?_⟩
    simp only [rE_var, rE_int, rE_str, rE_bl, rE_non, rE_glo, rE_bin, rE_neg, rE_cmp, rE_chn, rE_and, rE_or, rE_not, rE_ife, rE_idx, rE_slc, rE_rev, rE_tup, rE_lst, rE_dic, rE_call, rE_callk, rE_isI, rE_blt, rE_rng, rE_mth, rE_lc, rT_and, rT_or, rT_not, rT_cmp, rT_chn, rT_bl, rT_var, rT_call, rT_isI, rT_blt, rA_nil, rA_cons, rA_star, rTs_nil, rTs_one, rO_no, rO_yes, rI_of, rI_rng, rI_enm, rI_ez, rI_zip, rG_name, rG_tup, rG_sub, rGs_nil, rGs_cons, rS_asg, rS_par, rS_ex, rS_ret, rS_retN, rS_ife, rS_for, rS_whl, rS_never, rS_pass, rS_brk, rS_cont, rSs_nil, rSs_cons, o_add_i, o_sub_i, o_mul_i, o_fdiv_i, o_mod_i, o_pow_i, o_add_t, o_add_s, o_add_r, c_lt_i, c_le_i, c_gt_i, c_ge_i, i_tup, i_rl, i_ref, s_tup, s_rl, s_ref, r_tup, q_tup, q_rl, q_ref, l_rl, l_ref, t_append, t_extend, t_pop, m_append, m_extend, m_pop, st_ref, it_tup, it_rl, it_ref, rg_1, rg_2, z_2, z_3, dw_nil, dw_cons, b_abs, b_int, b_intb, b_stri, b_lent, b_lenr, b_lenl, b_tuple, b_list, b_all, b_any, b_sum, b_max, b_min, List.getElem?_cons_zero, List.getElem?_cons_succ, List.set_cons_zero, List.set_cons_succ, ex_some, ex_bl, ex_int, Bool.false_eq_true, if_false, if_true, Tgs.len, DL.Tgs.len]
    exact ⟨_, efa, _, Sub.refl _, ret_of (h v η' (gw_of h9 hv hlet (by omega)) (hp2.mono (by omega)) fr2)⟩
  · refine ⟨[], none, none, rfl, by simp, ?_, ?_, put_same, (hp1.new hfa).mono (by omega), (Fr.new hra).trans (Fr.new hfa), rfl⟩
    · have := (nin_rg ⟨m, by omega⟩).1
      simpa [lastF] using this
    · rw [put_ne nrf, put_same]; rfl
end
end K43

set_option Elab.async false
set_option linter.all false
set_option maxRecDepth 100000
set_option maxHeartbeats 4000000
/-! K43K: all words, plainly. -/
namespace K43
open PySem PySem.Spec PyProof.Rows L2 DL
abbrev WR := List Nat × List Int
def kid (x : WR) (i : Nat) : Option WR := match x.2[i]?, x.2[i + 1]? with
  | some a, some b => if a < b then some (x.1 ++ [i], ex x.2 i) else none
  | _, _ => none
def kids (m : Nat) (x : WR) : List WR := (List.range (m - 1)).filterMap (kid x)
def lev (m : Nat) (L : List WR) : List WR := L.flatMap (kids m)
def levs (m : Nat) : Nat → List WR
  | 0 => [([], rg m)]
  | i + 1 => lev m (levs m i)
def dfs (m : Nat) : Nat → List WR → List (List Nat) → Option (List (List Nat))
  | 0, _, _ => none
  | _ + 1, [], F => some F
  | k + 1, x :: W, F => dfs m k ((kids m x).reverse ++ W) (if x.1.length = tri m then x.1 :: F else F)
def allW (m : Nat) : List (List Nat) := (levs m (tri m)).map Prod.fst
theorem dfs_all : ∀ m : Fin 5, dfs (m.val + 1) 3200 [([], rg (m.val + 1))] [] = some (allW (m.val + 1)) := by decide +kernel
theorem allW_ne : ∀ m : Fin 5, (allW (m.val + 1)).length ≤ 1 ∨ ∀ v ∈ allW (m.val + 1), v ≠ [] := by decide +kernel
end K43

set_option Elab.async false
set_option linter.all false
set_option maxRecDepth 100000
set_option maxHeartbeats 4000000
/-! K43L: the law's list of all words. -/
namespace K43
open PySem PySem.Spec PyProof.Rows L2 DL
def enc (x : WR) : D := .tup [wD x.1, tI x.2]
theorem fresh_sub {η η' : Sto} {q : Addr} (sb : Sub η η') (h : η' q = none) : η q = none := by
  cases z : η q with
  | none => rfl
  | some o => rw [sb q o z] at h; cases h
theorem kid_len {m i : Nat} {x y : WR} (h : y ∈ kids m x) : y.2.length = x.2.length ∧ y.1.length = x.1.length + 1 := by
  obtain ⟨k, hk, e⟩ := List.mem_filterMap.mp h
  unfold kid at e
  cases ha : x.2[k]? with
  | none => rw [ha] at e; cases e
  | some a =>
    cases hb : x.2[k + 1]? with
    | none => rw [ha, hb] at e; cases e
    | some b =>
      rw [ha, hb] at e
      simp only at e
      by_cases hab : a < b
      · rw [if_pos hab] at e
        cases e
        exact ⟨ex_len _ _, by simp⟩
      · rw [if_neg hab] at e; cases e
theorem kids_le {m : Nat} (h5 : m ≤ 5) (x : WR) : (kids m x).length ≤ 4 := by
  have := List.length_filterMap_le (kid x) (List.range (m - 1))
  rw [List.length_range] at this
  exact Nat.le_trans this (by omega)
theorem flat_le {m : Nat} (h5 : m ≤ 5) (L : List WR) : (L.flatMap (kids m)).length ≤ 4 * L.length := by
  induction L with
  | nil => simp
  | cons x L ih =>
    rw [List.flatMap_cons, List.length_append, List.length_cons]
    have := kids_le h5 x
    omega
theorem levs_le {m : Nat} (h5 : m ≤ 5) : ∀ i, (levs m i).length ≤ 4 ^ i
  | 0 => by simp [levs]
  | i + 1 => by
    have h1 := flat_le h5 (levs m i)
    have h2 := levs_le h5 i
    show ((levs m i).flatMap (kids m)).length ≤ _
    rw [Nat.pow_succ]
    omega
theorem levs_mem {m : Nat} : ∀ i, ∀ x ∈ levs m i, x.2.length = m ∧ x.1.length = i
  | 0, x, h => by
    rw [levs, List.mem_singleton] at h
    subst h
    exact ⟨rg_len m, rfl⟩
  | i + 1, x, h => by
    obtain ⟨y, hy, hx⟩ := List.mem_flatMap.mp h
    obtain ⟨e1, e2⟩ := levs_mem i y hy
    obtain ⟨k1, k2⟩ := kid_len (i := 0) hx
    exact ⟨by omega, by omega⟩
theorem tri_le5 : ∀ m : Fin 6, tri m.val ≤ 10 := by decide
theorem kid_some {x : WR} {i : Nat} {a b : Int} (ha : x.2[i]? = some a) (hb : x.2[i + 1]? = some b) : kid x i = if a < b then some (x.1 ++ [i], ex x.2 i) else none := by
  unfold kid; rw [ha, hb]
def fstD : D → Option D
  | .tup [w, _] => some w
  | _ => none
theorem fst_map (L : List WR) : (L.map enc).filterMap fstD = (L.map Prod.fst).map wD := by
  induction L with
  | nil => rfl
  | cons x L ih => rw [List.map_cons, List.filterMap_cons]; simp only [enc, fstD]; rw [ih]; rfl
theorem allW_ne' {m : Nat} (h1 : 1 ≤ m) (h5 : m ≤ 5) : (allW m).length ≤ 1 ∨ ∀ v ∈ allW m, v ≠ [] := by
  obtain ⟨k, rfl⟩ : ∃ k, m = k + 1 := ⟨m - 1, by omega⟩
  exact allW_ne ⟨k, by omega⟩
section
variable {n : Nat} {η : Sto} {Q : DK}
theorem law_all_words {m : Nat} (h1 : 1 ≤ m) (h5 : m ≤ 5) (h : ∀ q, η q = none → Q (.ref q) (put η q (.lst ((srt (allW m)).map wD)))) : CC (n + 1) (S "_law_all_words") [.int (m : Int)] η Q := by
  refine u__law_all_words ?_
  simp only [o__law_all_words, rE_var, rE_int, rE_str, rE_bl, rE_non, rE_glo, rE_bin, rE_neg, rE_cmp, rE_chn, rE_and, rE_or, rE_not, rE_ife, rE_idx, rE_slc, rE_rev, rE_tup, rE_lst, rE_dic, rE_call, rE_callk, rE_isI, rE_blt, rE_rng, rE_mth, rE_lc, rT_and, rT_or, rT_not, rT_cmp, rT_chn, rT_bl, rT_var, rT_call, rT_isI, rT_blt, rA_nil, rA_cons, rA_star, rTs_nil, rTs_one, rO_no, rO_yes, rI_of, rI_rng, rI_enm, rI_ez, rI_zip, rG_name, rG_tup, rG_sub, rGs_nil, rGs_cons, rS_asg, rS_par, rS_ex, rS_ret, rS_retN, rS_ife, rS_for, rS_whl, rS_never, rS_pass, rS_brk, rS_cont, rSs_nil, rSs_cons, o_add_i, o_sub_i, o_mul_i, o_fdiv_i, o_mod_i, o_pow_i, o_add_t, o_add_s, o_add_r, c_lt_i, c_le_i, c_gt_i, c_ge_i, i_tup, i_rl, i_ref, s_tup, s_rl, s_ref, r_tup, q_tup, q_rl, q_ref, l_rl, l_ref, t_append, t_extend, t_pop, m_append, m_extend, m_pop, st_ref, it_tup, it_rl, it_ref, rg_1, rg_2, z_2, z_3, dw_nil, dw_cons, b_abs, b_int, b_intb, b_stri, b_lent, b_lenr, b_lenl, b_tuple, b_list, b_all, b_any, b_sum, b_max, b_min, List.getElem?_cons_zero, List.getElem?_cons_succ, List.set_cons_zero, List.set_cons_succ, ex_some, ex_bl, ex_int, Bool.false_eq_true, if_false, if_true, Tgs.len, DL.Tgs.len]
  have ht : tri m ≤ 10 := tri_le5 ⟨m, by omega⟩
  refine ⟨size_of (by simp), inR_nat (by omega), size_of (by omega), size_of (by simp), size_of (by simp), fun p0 hp0 => ?_⟩
  refine ⟨mul_l (by omega), ⟨by decide, by decide⟩, ?_⟩
  rw [tri_int h1, rgD_rg, rgD_rg]
  refine ⟨inR_nat (by omega), ?_⟩
  refine for_of (rdC_mono _) (fun i δ η' => ∃ p d2 d3 d4 d5 d6, η' p = some (.lst ((levs m i).map enc)) ∧ Sub η η' ∧ δ = [some (.int (m : Int)), some (.ref p), d2, d3, d4, d5, d6]) (fun i x δ η' hx hj => ?_) (fun δ η' hj => ?_) ?_
  · obtain ⟨p, d2, d3, d4, d5, d6, ep, sb, rfl⟩ := hj
    have hi : i < tri m := by
      have := (List.getElem?_eq_some_iff.mp hx).1
      rw [List.length_map, rg_len] at this
      exact this
    have hL := levs_le h5 i
    have h4 : 4 ^ i ≤ 4 ^ 9 := Nat.pow_le_pow_right (by decide) (by omega)
    have hmem := levs_mem (m := m) i
    have elev : levs m (i + 1) = (levs m i).flatMap (kids m) := rfl
    rw [elev]
    generalize levs m i = L at *
    refine ⟨trivial, ?_⟩
    simp only [rE_var, rE_int, rE_str, rE_bl, rE_non, rE_glo, rE_bin, rE_neg, rE_cmp, rE_chn, rE_and, rE_or, rE_not, rE_ife, rE_idx, rE_slc, rE_rev, rE_tup, rE_lst, rE_dic, rE_call, rE_callk, rE_isI, rE_blt, rE_rng, rE_mth, rE_lc, rT_and, rT_or, rT_not, rT_cmp, rT_chn, rT_bl, rT_var, rT_call, rT_isI, rT_blt, rA_nil, rA_cons, rA_star, rTs_nil, rTs_one, rO_no, rO_yes, rI_of, rI_rng, rI_enm, rI_ez, rI_zip, rG_name, rG_tup, rG_sub, rGs_nil, rGs_cons, rS_asg, rS_par, rS_ex, rS_ret, rS_retN, rS_ife, rS_for, rS_whl, rS_never, rS_pass, rS_brk, rS_cont, rSs_nil, rSs_cons, o_add_i, o_sub_i, o_mul_i, o_fdiv_i, o_mod_i, o_pow_i, o_add_t, o_add_s, o_add_r, c_lt_i, c_le_i, c_gt_i, c_ge_i, i_tup, i_rl, i_ref, s_tup, s_rl, s_ref, r_tup, q_tup, q_rl, q_ref, l_rl, l_ref, t_append, t_extend, t_pop, m_append, m_extend, m_pop, st_ref, it_tup, it_rl, it_ref, rg_1, rg_2, z_2, z_3, dw_nil, dw_cons, b_abs, b_int, b_intb, b_stri, b_lent, b_lenr, b_lenl, b_tuple, b_list, b_all, b_any, b_sum, b_max, b_min, List.getElem?_cons_zero, List.getElem?_cons_succ, List.set_cons_zero, List.set_cons_succ, ex_some, ex_bl, ex_int, Bool.false_eq_true, if_false, if_true, Tgs.len, DL.Tgs.len]
    refine ⟨size_of (by simp), fun q hq => ?_⟩
    have npq : p ≠ q := ne_fresh ep hq
    have hq0 := fresh_sub sb hq
    refine ⟨_, by rw [put_ne npq]; exact ep, ?_⟩
    refine for_of (rdC_mono _) (fun j δ η2 => ∃ d4 d5 d6, η2 q = some (.lst (((L.take j).flatMap (kids m)).map enc)) ∧ η2 p = some (.lst (L.map enc)) ∧ Sub η η2 ∧ δ = [some (.int (m : Int)), some (.ref p), some x, some (.ref q), d4, d5, d6]) (fun j y δ η2 hy hj => ?_) (fun δ η2 hj => ?_) ?_
    · obtain ⟨d4, d5, d6, eq, ep2, sb2, rfl⟩ := hj
      rw [List.getElem?_map] at hy
      cases hz : L[j]? with
      | none => rw [hz] at hy; cases hy
      | some z =>
        rw [hz] at hy
        cases hy
        obtain ⟨zr, zw⟩ := hmem z (List.mem_of_getElem? hz)
        have hjl : j < L.length := (List.getElem?_eq_some_iff.mp hz).1
        refine ⟨ep2, ?_⟩
        simp only [rE_var, rE_int, rE_str, rE_bl, rE_non, rE_glo, rE_bin, rE_neg, rE_cmp, rE_chn, rE_and, rE_or, rE_not, rE_ife, rE_idx, rE_slc, rE_rev, rE_tup, rE_lst, rE_dic, rE_call, rE_callk, rE_isI, rE_blt, rE_rng, rE_mth, rE_lc, rT_and, rT_or, rT_not, rT_cmp, rT_chn, rT_bl, rT_var, rT_call, rT_isI, rT_blt, rA_nil, rA_cons, rA_star, rTs_nil, rTs_one, rO_no, rO_yes, rI_of, rI_rng, rI_enm, rI_ez, rI_zip, rG_name, rG_tup, rG_sub, rGs_nil, rGs_cons, rS_asg, rS_par, rS_ex, rS_ret, rS_retN, rS_ife, rS_for, rS_whl, rS_never, rS_pass, rS_brk, rS_cont, rSs_nil, rSs_cons, o_add_i, o_sub_i, o_mul_i, o_fdiv_i, o_mod_i, o_pow_i, o_add_t, o_add_s, o_add_r, c_lt_i, c_le_i, c_gt_i, c_ge_i, i_tup, i_rl, i_ref, s_tup, s_rl, s_ref, r_tup, q_tup, q_rl, q_ref, l_rl, l_ref, t_append, t_extend, t_pop, m_append, m_extend, m_pop, st_ref, it_tup, it_rl, it_ref, rg_1, rg_2, z_2, z_3, dw_nil, dw_cons, b_abs, b_int, b_intb, b_stri, b_lent, b_lenr, b_lenl, b_tuple, b_list, b_all, b_any, b_sum, b_max, b_min, List.getElem?_cons_zero, List.getElem?_cons_succ, List.set_cons_zero, List.set_cons_succ, ex_some, ex_bl, ex_int, Bool.false_eq_true, if_false, if_true, Tgs.len, DL.Tgs.len]
        refine ⟨_, rfl, rfl, _, _, rfl, _, _, rfl, rfl, ⟨by omega, by omega⟩, ?_⟩
        have em : ((m : Int) - 1) = ((m - 1 : Nat) : Int) := by omega
        rw [em, rgD_rg]
        have ebase := flat_le h5 (L.take j)
        rw [List.length_take] at ebase
        generalize hB : (L.take j).flatMap (kids m) = B at *
        refine for_of (rdC_mono _) (fun k δ η3 => ∃ d6, η3 q = some (.lst ((B ++ (List.range k).filterMap (kid z)).map enc)) ∧ η3 p = some (.lst (L.map enc)) ∧ Sub η η3 ∧ δ = [some (.int (m : Int)), some (.ref p), some x, some (.ref q), some (wD z.1), some (tI z.2), d6]) (fun k u δ η3 hu hj => ?_) (fun δ η3 hj => ?_) ?_
        · obtain ⟨d6', eq3, ep3, sb3, rfl⟩ := hj
          have hk : k < m - 1 := by
            have := (List.getElem?_eq_some_iff.mp hu).1
            rw [List.length_map, rg_len] at this
            exact this
          have eu : u = .int (k : Int) := by
            unfold rg at hu
            rw [List.map_map, List.getElem?_map, List.getElem?_range hk] at hu
            exact (Option.some.inj hu).symm
          subst eu
          obtain ⟨a, ha⟩ : ∃ a, z.2[k]? = some a := ⟨z.2[k], by simp⟩
          obtain ⟨b, hb⟩ : ∃ b, z.2[k + 1]? = some b := ⟨z.2[k + 1], by simp⟩
          have ha' : (z.2.map D.int)[k]? = some (.int a) := by rw [List.getElem?_map, ha]; rfl
          have hb' : (z.2.map D.int)[k + 1]? = some (.int b) := by rw [List.getElem?_map, hb]; rfl
          have e1 : ((k : Int) + 1) = ((k + 1 : Nat) : Int) := by omega
          have e2 : ((k : Int) + 2) = ((k + 2 : Nat) : Int) := by omega
          have et : tI z.2 = .tup (z.2.map .int) := rfl
          refine ⟨trivial, ?_⟩
          rw [et, wD_eq]
          simp only [rE_var, rE_int, rE_str, rE_bl, rE_non, rE_glo, rE_bin, rE_neg, rE_cmp, rE_chn, rE_and, rE_or, rE_not, rE_ife, rE_idx, rE_slc, rE_rev, rE_tup, rE_lst, rE_dic, rE_call, rE_callk, rE_isI, rE_blt, rE_rng, rE_mth, rE_lc, rT_and, rT_or, rT_not, rT_cmp, rT_chn, rT_bl, rT_var, rT_call, rT_isI, rT_blt, rA_nil, rA_cons, rA_star, rTs_nil, rTs_one, rO_no, rO_yes, rI_of, rI_rng, rI_enm, rI_ez, rI_zip, rG_name, rG_tup, rG_sub, rGs_nil, rGs_cons, rS_asg, rS_par, rS_ex, rS_ret, rS_retN, rS_ife, rS_for, rS_whl, rS_never, rS_pass, rS_brk, rS_cont, rSs_nil, rSs_cons, o_add_i, o_sub_i, o_mul_i, o_fdiv_i, o_mod_i, o_pow_i, o_add_t, o_add_s, o_add_r, c_lt_i, c_le_i, c_gt_i, c_ge_i, i_tup, i_rl, i_ref, s_tup, s_rl, s_ref, r_tup, q_tup, q_rl, q_ref, l_rl, l_ref, t_append, t_extend, t_pop, m_append, m_extend, m_pop, st_ref, it_tup, it_rl, it_ref, rg_1, rg_2, z_2, z_3, dw_nil, dw_cons, b_abs, b_int, b_intb, b_stri, b_lent, b_lenr, b_lenl, b_tuple, b_list, b_all, b_any, b_sum, b_max, b_min, List.getElem?_cons_zero, List.getElem?_cons_succ, List.set_cons_zero, List.set_cons_succ, ex_some, ex_bl, ex_int, Bool.false_eq_true, if_false, if_true, Tgs.len, DL.Tgs.len]
          rw [e1, e2]
          refine ⟨_, atI_nat ha', ?_⟩
          refine ⟨_, atI_nat hb', ?_⟩
          simp only [rE_var, rE_int, rE_str, rE_bl, rE_non, rE_glo, rE_bin, rE_neg, rE_cmp, rE_chn, rE_and, rE_or, rE_not, rE_ife, rE_idx, rE_slc, rE_rev, rE_tup, rE_lst, rE_dic, rE_call, rE_callk, rE_isI, rE_blt, rE_rng, rE_mth, rE_lc, rT_and, rT_or, rT_not, rT_cmp, rT_chn, rT_bl, rT_var, rT_call, rT_isI, rT_blt, rA_nil, rA_cons, rA_star, rTs_nil, rTs_one, rO_no, rO_yes, rI_of, rI_rng, rI_enm, rI_ez, rI_zip, rG_name, rG_tup, rG_sub, rGs_nil, rGs_cons, rS_asg, rS_par, rS_ex, rS_ret, rS_retN, rS_ife, rS_for, rS_whl, rS_never, rS_pass, rS_brk, rS_cont, rSs_nil, rSs_cons, o_add_i, o_sub_i, o_mul_i, o_fdiv_i, o_mod_i, o_pow_i, o_add_t, o_add_s, o_add_r, c_lt_i, c_le_i, c_gt_i, c_ge_i, i_tup, i_rl, i_ref, s_tup, s_rl, s_ref, r_tup, q_tup, q_rl, q_ref, l_rl, l_ref, t_append, t_extend, t_pop, m_append, m_extend, m_pop, st_ref, it_tup, it_rl, it_ref, rg_1, rg_2, z_2, z_3, dw_nil, dw_cons, b_abs, b_int, b_intb, b_stri, b_lent, b_lenr, b_lenl, b_tuple, b_list, b_all, b_any, b_sum, b_max, b_min, List.getElem?_cons_zero, List.getElem?_cons_succ, List.set_cons_zero, List.set_cons_succ, ex_some, ex_bl, ex_int, Bool.false_eq_true, if_false, if_true, Tgs.len, DL.Tgs.len]
          have hfm := List.length_filterMap_le (kid z) (List.range k)
          rw [List.length_range] at hfm
          by_cases hab : a < b
          · simp only [hab, decide_true, rE_var, rE_int, rE_str, rE_bl, rE_non, rE_glo, rE_bin, rE_neg, rE_cmp, rE_chn, rE_and, rE_or, rE_not, rE_ife, rE_idx, rE_slc, rE_rev, rE_tup, rE_lst, rE_dic, rE_call, rE_callk, rE_isI, rE_blt, rE_rng, rE_mth, rE_lc, rT_and, rT_or, rT_not, rT_cmp, rT_chn, rT_bl, rT_var, rT_call, rT_isI, rT_blt, rA_nil, rA_cons, rA_star, rTs_nil, rTs_one, rO_no, rO_yes, rI_of, rI_rng, rI_enm, rI_ez, rI_zip, rG_name, rG_tup, rG_sub, rGs_nil, rGs_cons, rS_asg, rS_par, rS_ex, rS_ret, rS_retN, rS_ife, rS_for, rS_whl, rS_never, rS_pass, rS_brk, rS_cont, rSs_nil, rSs_cons, o_add_i, o_sub_i, o_mul_i, o_fdiv_i, o_mod_i, o_pow_i, o_add_t, o_add_s, o_add_r, c_lt_i, c_le_i, c_gt_i, c_ge_i, i_tup, i_rl, i_ref, s_tup, s_rl, s_ref, r_tup, q_tup, q_rl, q_ref, l_rl, l_ref, t_append, t_extend, t_pop, m_append, m_extend, m_pop, st_ref, it_tup, it_rl, it_ref, rg_1, rg_2, z_2, z_3, dw_nil, dw_cons, b_abs, b_int, b_intb, b_stri, b_lent, b_lenr, b_lenl, b_tuple, b_list, b_all, b_any, b_sum, b_max, b_min, List.getElem?_cons_zero, List.getElem?_cons_succ, List.set_cons_zero, List.set_cons_succ, ex_some, ex_bl, ex_int, Bool.false_eq_true, if_false, if_true, Tgs.len, DL.Tgs.len]
            refine ⟨⟨_, eq3⟩, size_of (by simp), ?_, _, atI_nat hb', _, atI_nat ha', size_of (by simp), ?_, ?_, size_of (by simp), _, eq3, ?_, _, ?_, ?_, ?_, rfl⟩
            · rw [wL_len, zw]; exact size_of (by simp; omega)
            · rw [cut_to, List.length_take, List.length_map]; exact size_of (by simp; omega)
            · rw [cut_to, cut_from]; simp only [List.length_append, List.length_take, List.length_drop, List.length_map, List.length_cons, List.length_nil]; exact size_of (by omega)
            · rw [List.length_map, List.length_append, sizeLine_eq]; omega
            · rw [put_same, range_snoc, kid_some ha hb, if_pos hab, ← List.append_assoc]
              have ee : D.tup [D.tup (wL z.1 ++ [D.int (k : Int)]), D.tup (cut (z.2.map D.int) none (some (k : Int)) ++ [D.int b, D.int a] ++ cut (z.2.map D.int) (some ((k + 2 : Nat) : Int)) none)] = enc (z.1 ++ [k], ex z.2 k) := by
                rw [cut_to, cut_from]
                unfold enc
                have e5 : wL z.1 ++ [D.int (k : Int)] = wL (z.1 ++ [k]) := by unfold wL; rw [List.map_append]; rfl
                have e6 : (z.2.map D.int).take k ++ [D.int b, D.int a] ++ (z.2.map D.int).drop (k + 2) = (ex z.2 k).map D.int := by
                  rw [ex_of ha hb]
                  simp [List.map_take, List.map_drop]
                rw [e5, e6]; rfl
              rw [ee, List.map_append (l₁ := B ++ _)]
              rfl
            · rw [put_ne npq]; exact ep3
            · exact Sub.ofput hq0 sb3
          · simp only [hab, decide_false, rE_var, rE_int, rE_str, rE_bl, rE_non, rE_glo, rE_bin, rE_neg, rE_cmp, rE_chn, rE_and, rE_or, rE_not, rE_ife, rE_idx, rE_slc, rE_rev, rE_tup, rE_lst, rE_dic, rE_call, rE_callk, rE_isI, rE_blt, rE_rng, rE_mth, rE_lc, rT_and, rT_or, rT_not, rT_cmp, rT_chn, rT_bl, rT_var, rT_call, rT_isI, rT_blt, rA_nil, rA_cons, rA_star, rTs_nil, rTs_one, rO_no, rO_yes, rI_of, rI_rng, rI_enm, rI_ez, rI_zip, rG_name, rG_tup, rG_sub, rGs_nil, rGs_cons, rS_asg, rS_par, rS_ex, rS_ret, rS_retN, rS_ife, rS_for, rS_whl, rS_never, rS_pass, rS_brk, rS_cont, rSs_nil, rSs_cons, o_add_i, o_sub_i, o_mul_i, o_fdiv_i, o_mod_i, o_pow_i, o_add_t, o_add_s, o_add_r, c_lt_i, c_le_i, c_gt_i, c_ge_i, i_tup, i_rl, i_ref, s_tup, s_rl, s_ref, r_tup, q_tup, q_rl, q_ref, l_rl, l_ref, t_append, t_extend, t_pop, m_append, m_extend, m_pop, st_ref, it_tup, it_rl, it_ref, rg_1, rg_2, z_2, z_3, dw_nil, dw_cons, b_abs, b_int, b_intb, b_stri, b_lent, b_lenr, b_lenl, b_tuple, b_list, b_all, b_any, b_sum, b_max, b_min, List.getElem?_cons_zero, List.getElem?_cons_succ, List.set_cons_zero, List.set_cons_succ, ex_some, ex_bl, ex_int, Bool.false_eq_true, if_false, if_true, Tgs.len, DL.Tgs.len]
            refine ⟨_, ?_, ep3, sb3, rfl⟩
            rw [range_snoc, kid_some ha hb, if_neg hab]
            simpa using eq3
        · obtain ⟨d6', eq3, ep3, sb3, rfl⟩ := hj
          refine ⟨trivial, _, _, _, ?_, ep3, sb3, rfl⟩
          rw [List.length_map, rg_len] at eq3
          rw [List.take_add_one, hz, Option.toList_some, List.flatMap_append, hB]
          simpa [kids] using eq3
        · refine ⟨_, ?_, ep2, sb2, rfl⟩
          simpa using eq
    · obtain ⟨d4, d5, d6, eq, ep2, sb2, rfl⟩ := hj
      rw [List.length_map, List.take_length] at eq
      refine ⟨ep2, ?_⟩
      simp only [rE_var, rE_int, rE_str, rE_bl, rE_non, rE_glo, rE_bin, rE_neg, rE_cmp, rE_chn, rE_and, rE_or, rE_not, rE_ife, rE_idx, rE_slc, rE_rev, rE_tup, rE_lst, rE_dic, rE_call, rE_callk, rE_isI, rE_blt, rE_rng, rE_mth, rE_lc, rT_and, rT_or, rT_not, rT_cmp, rT_chn, rT_bl, rT_var, rT_call, rT_isI, rT_blt, rA_nil, rA_cons, rA_star, rTs_nil, rTs_one, rO_no, rO_yes, rI_of, rI_rng, rI_enm, rI_ez, rI_zip, rG_name, rG_tup, rG_sub, rGs_nil, rGs_cons, rS_asg, rS_par, rS_ex, rS_ret, rS_retN, rS_ife, rS_for, rS_whl, rS_never, rS_pass, rS_brk, rS_cont, rSs_nil, rSs_cons, o_add_i, o_sub_i, o_mul_i, o_fdiv_i, o_mod_i, o_pow_i, o_add_t, o_add_s, o_add_r, c_lt_i, c_le_i, c_gt_i, c_ge_i, i_tup, i_rl, i_ref, s_tup, s_rl, s_ref, r_tup, q_tup, q_rl, q_ref, l_rl, l_ref, t_append, t_extend, t_pop, m_append, m_extend, m_pop, st_ref, it_tup, it_rl, it_ref, rg_1, rg_2, z_2, z_3, dw_nil, dw_cons, b_abs, b_int, b_intb, b_stri, b_lent, b_lenr, b_lenl, b_tuple, b_list, b_all, b_any, b_sum, b_max, b_min, List.getElem?_cons_zero, List.getElem?_cons_succ, List.set_cons_zero, List.set_cons_succ, ex_some, ex_bl, ex_int, Bool.false_eq_true, if_false, if_true, Tgs.len, DL.Tgs.len]
      exact ⟨q, _, _, _, _, _, eq, sb2, rfl⟩
    · exact ⟨_, _, _, put_same, by rw [put_ne npq]; exact ep, Sub.ofput hq0 sb, rfl⟩
  · obtain ⟨p, d2, d3, d4, d5, d6, ep, sb, rfl⟩ := hj
    rw [List.length_map, rg_len] at ep
    refine ⟨trivial, ?_⟩
    simp only [rE_var, rE_int, rE_str, rE_bl, rE_non, rE_glo, rE_bin, rE_neg, rE_cmp, rE_chn, rE_and, rE_or, rE_not, rE_ife, rE_idx, rE_slc, rE_rev, rE_tup, rE_lst, rE_dic, rE_call, rE_callk, rE_isI, rE_blt, rE_rng, rE_mth, rE_lc, rT_and, rT_or, rT_not, rT_cmp, rT_chn, rT_bl, rT_var, rT_call, rT_isI, rT_blt, rA_nil, rA_cons, rA_star, rTs_nil, rTs_one, rO_no, rO_yes, rI_of, rI_rng, rI_enm, rI_ez, rI_zip, rG_name, rG_tup, rG_sub, rGs_nil, rGs_cons, rS_asg, rS_par, rS_ex, rS_ret, rS_retN, rS_ife, rS_for, rS_whl, rS_never, rS_pass, rS_brk, rS_cont, rSs_nil, rSs_cons, o_add_i, o_sub_i, o_mul_i, o_fdiv_i, o_mod_i, o_pow_i, o_add_t, o_add_s, o_add_r, c_lt_i, c_le_i, c_gt_i, c_ge_i, i_tup, i_rl, i_ref, s_tup, s_rl, s_ref, r_tup, q_tup, q_rl, q_ref, l_rl, l_ref, t_append, t_extend, t_pop, m_append, m_extend, m_pop, st_ref, it_tup, it_rl, it_ref, rg_1, rg_2, z_2, z_3, dw_nil, dw_cons, b_abs, b_int, b_intb, b_stri, b_lent, b_lenr, b_lenl, b_tuple, b_list, b_all, b_any, b_sum, b_max, b_min, List.getElem?_cons_zero, List.getElem?_cons_succ, List.set_cons_zero, List.set_cons_succ, ex_some, ex_bl, ex_int, Bool.false_eq_true, if_false, if_true, Tgs.len, DL.Tgs.len]
    refine ⟨_, ep, fun q hq => ?_⟩
    have npq : p ≠ q := ne_fresh ep hq
    have hq0 := fresh_sub sb hq
    refine lc_of (rdC_mono _) η' fstD (fun acc => by rw [put_ne npq]; exact ep) (fun x hx acc => ?_) ?_ ?_
    · obtain ⟨z, hz, rfl⟩ := List.mem_map.mp hx
      unfold enc
      simp only [rE_var, rE_int, rE_str, rE_bl, rE_non, rE_glo, rE_bin, rE_neg, rE_cmp, rE_chn, rE_and, rE_or, rE_not, rE_ife, rE_idx, rE_slc, rE_rev, rE_tup, rE_lst, rE_dic, rE_call, rE_callk, rE_isI, rE_blt, rE_rng, rE_mth, rE_lc, rT_and, rT_or, rT_not, rT_cmp, rT_chn, rT_bl, rT_var, rT_call, rT_isI, rT_blt, rA_nil, rA_cons, rA_star, rTs_nil, rTs_one, rO_no, rO_yes, rI_of, rI_rng, rI_enm, rI_ez, rI_zip, rG_name, rG_tup, rG_sub, rGs_nil, rGs_cons, rS_asg, rS_par, rS_ex, rS_ret, rS_retN, rS_ife, rS_for, rS_whl, rS_never, rS_pass, rS_brk, rS_cont, rSs_nil, rSs_cons, o_add_i, o_sub_i, o_mul_i, o_fdiv_i, o_mod_i, o_pow_i, o_add_t, o_add_s, o_add_r, c_lt_i, c_le_i, c_gt_i, c_ge_i, i_tup, i_rl, i_ref, s_tup, s_rl, s_ref, r_tup, q_tup, q_rl, q_ref, l_rl, l_ref, t_append, t_extend, t_pop, m_append, m_extend, m_pop, st_ref, it_tup, it_rl, it_ref, rg_1, rg_2, z_2, z_3, dw_nil, dw_cons, b_abs, b_int, b_intb, b_stri, b_lent, b_lenr, b_lenl, b_tuple, b_list, b_all, b_any, b_sum, b_max, b_min, List.getElem?_cons_zero, List.getElem?_cons_succ, List.set_cons_zero, List.set_cons_succ, ex_some, ex_bl, ex_int, Bool.false_eq_true, if_false, if_true, Tgs.len, DL.Tgs.len]
      exact ⟨_, rfl, rfl, _, _, rfl, _, _, rfl, rfl, trivial, trivial, .inr ⟨trivial, rfl, trivial⟩⟩
    · rw [List.length_map]
      have hL := levs_le h5 (tri m)
      have h4 : 4 ^ tri m ≤ 4 ^ 10 := Nat.pow_le_pow_right (by decide) ht
      exact size_of (by omega)
    · rw [fst_map]
      refine sorted_W put_same (allW_ne' h1 h5) fun q2 hq2 => ?_
      have hq20 : η q2 = none := fresh_sub (Sub.ofput hq0 sb) hq2
      exact ⟨_, Sub.refl _, ret_sub ((Sub.ofput hq0 sb).put q2 _) (h q2 hq20)⟩
  · exact ⟨p0, none, none, none, none, none, put_same, sub_new hp0, rfl⟩
end
end K43

set_option Elab.async false
set_option linter.all false
set_option maxRecDepth 100000
set_option maxHeartbeats 4000000
/-! K43M: the program's list of all words; the law's count. -/
namespace K43
open PySem PySem.Spec PyProof.Rows L2 DL
def pE (x : WR) : PyData := .tuple [pI (toI x.1), pI x.2]
theorem pd_enc {η : Sto} (x : WR) : Pd η (enc x) (pE x) := .tup (.cons (by rw [wD_tI]; exact pd_tI _) (.cons (pd_tI _) .nil))
theorem shaped_list {ps : List PyData} (h : ∀ p ∈ ps, p.canLay0 = true ∧ p.depth ≤ 4) : SeqAt.shaped (.list ps) = true := by
  unfold SeqAt.shaped
  have hd : PyData.depthAll ps ≤ 4 := depth_le fun p hp => (h p hp).2
  have hl := canLay_all fun p hp => (h p hp).1
  simp [PyData.canLay0, PyData.depth, hl]
  omega
theorem pE_lay (x : WR) : (pE x).canLay0 = true ∧ (pE x).depth ≤ 4 := by
  have h1 := depth_pI (toI x.1)
  have h2 := depth_pI x.2
  have l1 : (pI (toI x.1)).canLay0 = true := by have := shaped_pI (toI x.1); unfold SeqAt.shaped at this; rw [Bool.and_eq_true] at this; exact this.1
  have l2 : (pI x.2).canLay0 = true := by have := shaped_pI x.2; unfold SeqAt.shaped at this; rw [Bool.and_eq_true] at this; exact this.1
  constructor
  · simp [pE, PyData.canLay0, PyData.canLayAll0, l1, l2]
  · simp [pE, PyData.depth, PyData.depthAll]
    omega
theorem cne_nil {η : Sto} {p e : Addr} {W : List WR} {Q : Bool → Sto → Prop} (h1 : η p = some (.lst (W.map enc))) (h2 : η e = some (.lst [])) (h : Q (!W.isEmpty) η) : cmpD .ne (.ref p) (.ref e) η Q := by
  refine .inr (.inr ⟨.list (W.map pE), .list [], .lst h1 (Pds_map fun x _ => pd_enc x), .lst h2 .nil, ?_, shaped_list (by simp), ?_⟩)
  · refine shaped_list fun p hp => ?_
    obtain ⟨x, _, rfl⟩ := List.mem_map.mp hp
    exact pE_lay x
  · cases W <;> simpa [PyData.eqv, PyData.eqvAll] using h
theorem dfs_all' {m : Nat} (h1 : 1 ≤ m) (h5 : m ≤ 5) : dfs m 3200 [([], rg m)] [] = some (allW m) := by
  obtain ⟨k, rfl⟩ : ∃ k, m = k + 1 := ⟨m - 1, by omega⟩
  exact dfs_all ⟨k, by omega⟩
section
variable {n : Nat} {η : Sto} {Q : DK}
def bodyW : Ss := (.cons (.ife (.cmp .lt (.idx (.var 5) (.var 3)) (.idx (.var 5) (.bin .add (.var 3) (.int 1)))) (.cons (.ex (.mth .append (.var 2) (.cons (.tup (.cons (.bin .add (.var 4) (.tup (.cons (.var 3) .nil))) (.cons (.call (Str.ofString "exchanged") (.cons (.var 5) (.cons (.var 3) .nil))) .nil))) .nil))) .nil) .nil) .nil)
theorem words_loop {m : Nat} {z : WR} {W : List WR} {pf pw : Addr} {FD : List D} {η0 : Sto} {E : DEnds} {d3 : Option D} (h1 : 1 ≤ m) (h5 : m ≤ 5) (zr : z.2.length = m) (zw : z.1.length ≤ 4000) (hW : W.length ≤ 20000) (nfw : pf ≠ pw) (hpw : η0 pw = none) (hpf : η0 pf = none) (ef : η pf = some (.lst FD)) (ew : η pw = some (.lst (W.reverse.map enc))) (sb : Sub η0 η)
    (hE : ∀ η' d3, η' pf = some (.lst FD) → η' pw = some (.lst (((kids m z).reverse ++ W).reverse.map enc)) → Sub η0 η' → E.nx [some (.int (m : Int)), some (.ref pf), some (.ref pw), d3, some (wD z.1), some (tI z.2)] η') :
    DL.inR ((m : Int) - 1) ∧ forR (CC (n + 1)) GG (.name 3) bodyW (fun _ => True) (rngD 0 ((m : Int) - 1)) E [some (.int (m : Int)), some (.ref pf), some (.ref pw), d3, some (wD z.1), some (tI z.2)] η := by
  have em : ((m : Int) - 1) = ((m - 1 : Nat) : Int) := by omega
  rw [em, rgD_rg]
  refine ⟨inR_nat (by omega), ?_⟩
  refine for_of (rdC_mono _) (fun k δ η3 => ∃ d3, η3 pf = some (.lst FD) ∧ η3 pw = some (.lst ((W.reverse ++ (List.range k).filterMap (kid z)).map enc)) ∧ Sub η0 η3 ∧ δ = [some (.int (m : Int)), some (.ref pf), some (.ref pw), d3, some (wD z.1), some (tI z.2)]) (fun k u δ η3 hu hj => ?_) (fun δ η3 hj => ?_) ?_
  · obtain ⟨d3', ef3, ew3, sb3, rfl⟩ := hj
    have hk : k < m - 1 := by
      have := (List.getElem?_eq_some_iff.mp hu).1
      rw [List.length_map, rg_len] at this
      exact this
    have eu : u = .int (k : Int) := by
      unfold rg at hu
      rw [List.map_map, List.getElem?_map, List.getElem?_range hk] at hu
      exact (Option.some.inj hu).symm
    subst eu
    obtain ⟨a, ha⟩ : ∃ a, z.2[k]? = some a := ⟨z.2[k], by simp⟩
    obtain ⟨b, hb⟩ : ∃ b, z.2[k + 1]? = some b := ⟨z.2[k + 1], by simp⟩
    have ha' : (z.2.map D.int)[k]? = some (.int a) := by rw [List.getElem?_map, ha]; rfl
    have hb' : (z.2.map D.int)[k + 1]? = some (.int b) := by rw [List.getElem?_map, hb]; rfl
    have e1 : ((k : Int) + 1) = ((k + 1 : Nat) : Int) := by omega
    have et : tI z.2 = .tup (z.2.map .int) := rfl
    refine ⟨trivial, ?_⟩
    rw [et, wD_eq]
    simp only [bodyW, rE_var, rE_int, rE_str, rE_bl, rE_non, rE_glo, rE_bin, rE_neg, rE_cmp, rE_chn, rE_and, rE_or, rE_not, rE_ife, rE_idx, rE_slc, rE_rev, rE_tup, rE_lst, rE_dic, rE_call, rE_callk, rE_isI, rE_blt, rE_rng, rE_mth, rE_lc, rT_and, rT_or, rT_not, rT_cmp, rT_chn, rT_bl, rT_var, rT_call, rT_isI, rT_blt, rA_nil, rA_cons, rA_star, rTs_nil, rTs_one, rO_no, rO_yes, rI_of, rI_rng, rI_enm, rI_ez, rI_zip, rG_name, rG_tup, rG_sub, rGs_nil, rGs_cons, rS_asg, rS_par, rS_ex, rS_ret, rS_retN, rS_ife, rS_for, rS_whl, rS_never, rS_pass, rS_brk, rS_cont, rSs_nil, rSs_cons, o_add_i, o_sub_i, o_mul_i, o_fdiv_i, o_mod_i, o_pow_i, o_add_t, o_add_s, o_add_r, c_lt_i, c_le_i, c_gt_i, c_ge_i, i_tup, i_rl, i_ref, s_tup, s_rl, s_ref, r_tup, q_tup, q_rl, q_ref, l_rl, l_ref, t_append, t_extend, t_pop, m_append, m_extend, m_pop, st_ref, it_tup, it_rl, it_ref, rg_1, rg_2, z_2, z_3, dw_nil, dw_cons, b_abs, b_int, b_intb, b_stri, b_lent, b_lenr, b_lenl, b_tuple, b_list, b_all, b_any, b_sum, b_max, b_min, List.getElem?_cons_zero, List.getElem?_cons_succ, List.set_cons_zero, List.set_cons_succ, ex_some, ex_bl, ex_int, Bool.false_eq_true, if_false, if_true, Tgs.len, DL.Tgs.len]
    rw [e1]
    refine ⟨_, atI_nat ha', _, atI_nat hb', ?_⟩
    simp only [rE_var, rE_int, rE_str, rE_bl, rE_non, rE_glo, rE_bin, rE_neg, rE_cmp, rE_chn, rE_and, rE_or, rE_not, rE_ife, rE_idx, rE_slc, rE_rev, rE_tup, rE_lst, rE_dic, rE_call, rE_callk, rE_isI, rE_blt, rE_rng, rE_mth, rE_lc, rT_and, rT_or, rT_not, rT_cmp, rT_chn, rT_bl, rT_var, rT_call, rT_isI, rT_blt, rA_nil, rA_cons, rA_star, rTs_nil, rTs_one, rO_no, rO_yes, rI_of, rI_rng, rI_enm, rI_ez, rI_zip, rG_name, rG_tup, rG_sub, rGs_nil, rGs_cons, rS_asg, rS_par, rS_ex, rS_ret, rS_retN, rS_ife, rS_for, rS_whl, rS_never, rS_pass, rS_brk, rS_cont, rSs_nil, rSs_cons, o_add_i, o_sub_i, o_mul_i, o_fdiv_i, o_mod_i, o_pow_i, o_add_t, o_add_s, o_add_r, c_lt_i, c_le_i, c_gt_i, c_ge_i, i_tup, i_rl, i_ref, s_tup, s_rl, s_ref, r_tup, q_tup, q_rl, q_ref, l_rl, l_ref, t_append, t_extend, t_pop, m_append, m_extend, m_pop, st_ref, it_tup, it_rl, it_ref, rg_1, rg_2, z_2, z_3, dw_nil, dw_cons, b_abs, b_int, b_intb, b_stri, b_lent, b_lenr, b_lenl, b_tuple, b_list, b_all, b_any, b_sum, b_max, b_min, List.getElem?_cons_zero, List.getElem?_cons_succ, List.set_cons_zero, List.set_cons_succ, ex_some, ex_bl, ex_int, Bool.false_eq_true, if_false, if_true, Tgs.len, DL.Tgs.len]
    have hfm := List.length_filterMap_le (kid z) (List.range k)
    rw [List.length_range] at hfm
    by_cases hab : a < b
    · simp only [hab, decide_true, rE_var, rE_int, rE_str, rE_bl, rE_non, rE_glo, rE_bin, rE_neg, rE_cmp, rE_chn, rE_and, rE_or, rE_not, rE_ife, rE_idx, rE_slc, rE_rev, rE_tup, rE_lst, rE_dic, rE_call, rE_callk, rE_isI, rE_blt, rE_rng, rE_mth, rE_lc, rT_and, rT_or, rT_not, rT_cmp, rT_chn, rT_bl, rT_var, rT_call, rT_isI, rT_blt, rA_nil, rA_cons, rA_star, rTs_nil, rTs_one, rO_no, rO_yes, rI_of, rI_rng, rI_enm, rI_ez, rI_zip, rG_name, rG_tup, rG_sub, rGs_nil, rGs_cons, rS_asg, rS_par, rS_ex, rS_ret, rS_retN, rS_ife, rS_for, rS_whl, rS_never, rS_pass, rS_brk, rS_cont, rSs_nil, rSs_cons, o_add_i, o_sub_i, o_mul_i, o_fdiv_i, o_mod_i, o_pow_i, o_add_t, o_add_s, o_add_r, c_lt_i, c_le_i, c_gt_i, c_ge_i, i_tup, i_rl, i_ref, s_tup, s_rl, s_ref, r_tup, q_tup, q_rl, q_ref, l_rl, l_ref, t_append, t_extend, t_pop, m_append, m_extend, m_pop, st_ref, it_tup, it_rl, it_ref, rg_1, rg_2, z_2, z_3, dw_nil, dw_cons, b_abs, b_int, b_intb, b_stri, b_lent, b_lenr, b_lenl, b_tuple, b_list, b_all, b_any, b_sum, b_max, b_min, List.getElem?_cons_zero, List.getElem?_cons_succ, List.set_cons_zero, List.set_cons_succ, ex_some, ex_bl, ex_int, Bool.false_eq_true, if_false, if_true, Tgs.len, DL.Tgs.len]
      refine ⟨⟨_, ew3⟩, size_of (by simp), ?_, exchanged (by rw [List.length_map]; omega) (size_of (by rw [List.length_map]; omega)) ⟨size_of (by simp), _, ew3, ?_, _, ?_, ?_, ?_, rfl⟩⟩
      · rw [wL_len]; exact size_of (by simp; omega)
      · rw [List.length_map, List.length_append, List.length_reverse, sizeLine_eq]; omega
      · rw [put_ne nfw]; exact ef3
      · rw [put_same, range_snoc, kid_some ha hb, if_pos hab, ← List.append_assoc]
        have ee : D.tup [D.tup (wL z.1 ++ [D.int (k : Int)]), D.tup (ex (z.2.map D.int) k)] = enc (z.1 ++ [k], ex z.2 k) := by
          unfold enc
          have e5 : wL z.1 ++ [D.int (k : Int)] = wL (z.1 ++ [k]) := by unfold wL; rw [List.map_append]; rfl
          rw [e5, ex_map]; rfl
        rw [ee, List.map_append (l₁ := W.reverse ++ _)]
        rfl
      · exact Sub.ofput hpw sb3
    · simp only [hab, decide_false, rE_var, rE_int, rE_str, rE_bl, rE_non, rE_glo, rE_bin, rE_neg, rE_cmp, rE_chn, rE_and, rE_or, rE_not, rE_ife, rE_idx, rE_slc, rE_rev, rE_tup, rE_lst, rE_dic, rE_call, rE_callk, rE_isI, rE_blt, rE_rng, rE_mth, rE_lc, rT_and, rT_or, rT_not, rT_cmp, rT_chn, rT_bl, rT_var, rT_call, rT_isI, rT_blt, rA_nil, rA_cons, rA_star, rTs_nil, rTs_one, rO_no, rO_yes, rI_of, rI_rng, rI_enm, rI_ez, rI_zip, rG_name, rG_tup, rG_sub, rGs_nil, rGs_cons, rS_asg, rS_par, rS_ex, rS_ret, rS_retN, rS_ife, rS_for, rS_whl, rS_never, rS_pass, rS_brk, rS_cont, rSs_nil, rSs_cons, o_add_i, o_sub_i, o_mul_i, o_fdiv_i, o_mod_i, o_pow_i, o_add_t, o_add_s, o_add_r, c_lt_i, c_le_i, c_gt_i, c_ge_i, i_tup, i_rl, i_ref, s_tup, s_rl, s_ref, r_tup, q_tup, q_rl, q_ref, l_rl, l_ref, t_append, t_extend, t_pop, m_append, m_extend, m_pop, st_ref, it_tup, it_rl, it_ref, rg_1, rg_2, z_2, z_3, dw_nil, dw_cons, b_abs, b_int, b_intb, b_stri, b_lent, b_lenr, b_lenl, b_tuple, b_list, b_all, b_any, b_sum, b_max, b_min, List.getElem?_cons_zero, List.getElem?_cons_succ, List.set_cons_zero, List.set_cons_succ, ex_some, ex_bl, ex_int, Bool.false_eq_true, if_false, if_true, Tgs.len, DL.Tgs.len]
      refine ⟨_, ef3, ?_, sb3, rfl⟩
      rw [range_snoc, kid_some ha hb, if_neg hab]
      simpa using ew3
  · obtain ⟨d3', ef3, ew3, sb3, rfl⟩ := hj
    rw [List.length_map, rg_len] at ew3
    refine ⟨trivial, hE _ _ ef3 ?_ sb3⟩
    rw [List.reverse_append, List.reverse_reverse]
    exact ew3
  · refine ⟨_, ef, ?_, sb, rfl⟩
    simpa using ew
theorem words_of {m : Nat} (h1 : 1 ≤ m) (h5 : m ≤ 5) (h : ∀ q, η q = none → Q (.ref q) (put η q (.lst ((srt (allW m)).map wD)))) : CC (n + 2) (S "words_of") [.int (m : Int)] η Q := by
  refine u_words_of ?_
  simp only [o_words_of, rE_var, rE_int, rE_str, rE_bl, rE_non, rE_glo, rE_bin, rE_neg, rE_cmp, rE_chn, rE_and, rE_or, rE_not, rE_ife, rE_idx, rE_slc, rE_rev, rE_tup, rE_lst, rE_dic, rE_call, rE_callk, rE_isI, rE_blt, rE_rng, rE_mth, rE_lc, rT_and, rT_or, rT_not, rT_cmp, rT_chn, rT_bl, rT_var, rT_call, rT_isI, rT_blt, rA_nil, rA_cons, rA_star, rTs_nil, rTs_one, rO_no, rO_yes, rI_of, rI_rng, rI_enm, rI_ez, rI_zip, rG_name, rG_tup, rG_sub, rGs_nil, rGs_cons, rS_asg, rS_par, rS_ex, rS_ret, rS_retN, rS_ife, rS_for, rS_whl, rS_never, rS_pass, rS_brk, rS_cont, rSs_nil, rSs_cons, o_add_i, o_sub_i, o_mul_i, o_fdiv_i, o_mod_i, o_pow_i, o_add_t, o_add_s, o_add_r, c_lt_i, c_le_i, c_gt_i, c_ge_i, i_tup, i_rl, i_ref, s_tup, s_rl, s_ref, r_tup, q_tup, q_rl, q_ref, l_rl, l_ref, t_append, t_extend, t_pop, m_append, m_extend, m_pop, st_ref, it_tup, it_rl, it_ref, rg_1, rg_2, z_2, z_3, dw_nil, dw_cons, b_abs, b_int, b_intb, b_stri, b_lent, b_lenr, b_lenl, b_tuple, b_list, b_all, b_any, b_sum, b_max, b_min, List.getElem?_cons_zero, List.getElem?_cons_succ, List.set_cons_zero, List.set_cons_succ, ex_some, ex_bl, ex_int, Bool.false_eq_true, if_false, if_true, Tgs.len, DL.Tgs.len]
  have ht : tri m ≤ 10 := tri_le5 ⟨m, by omega⟩
  refine ⟨size_of (by simp), fun pf hpf => ⟨size_of (by simp), inR_nat (by omega), size_of (by omega), size_of (by simp), size_of (by simp), fun pw hpw => ?_⟩⟩
  have nfw : pf ≠ pw := ne_fresh put_same hpw
  have hpw0 : η pw = none := fresh_sub (sub_new hpf) hpw
  rw [rgD_rg]
  refine whl_of (rdC_mono _) (fun k δ η' => ∃ W F d3 d4 d5, dfs m k W F = some (allW m) ∧ η' pf = some (.lst (F.reverse.map wD)) ∧ η' pw = some (.lst (W.reverse.map enc)) ∧ Sub η η' ∧ W.length + 4 * k ≤ 13000 ∧ F.length + k ≤ 3200 ∧ (∀ x ∈ W, x.2.length = m ∧ x.1.length + k ≤ 3200) ∧ δ = [some (.int (m : Int)), some (.ref pf), some (.ref pw), d3, d4, d5]) (k := 3200) (fun k δ η' hj => ?_) ?_
  · obtain ⟨W, F, d3, d4, d5, hd, epf, epw, sb, hW, hF, hx, rfl⟩ := hj
    simp only [rE_var, rE_int, rE_str, rE_bl, rE_non, rE_glo, rE_bin, rE_neg, rE_cmp, rE_chn, rE_and, rE_or, rE_not, rE_ife, rE_idx, rE_slc, rE_rev, rE_tup, rE_lst, rE_dic, rE_call, rE_callk, rE_isI, rE_blt, rE_rng, rE_mth, rE_lc, rT_and, rT_or, rT_not, rT_cmp, rT_chn, rT_bl, rT_var, rT_call, rT_isI, rT_blt, rA_nil, rA_cons, rA_star, rTs_nil, rTs_one, rO_no, rO_yes, rI_of, rI_rng, rI_enm, rI_ez, rI_zip, rG_name, rG_tup, rG_sub, rGs_nil, rGs_cons, rS_asg, rS_par, rS_ex, rS_ret, rS_retN, rS_ife, rS_for, rS_whl, rS_never, rS_pass, rS_brk, rS_cont, rSs_nil, rSs_cons, o_add_i, o_sub_i, o_mul_i, o_fdiv_i, o_mod_i, o_pow_i, o_add_t, o_add_s, o_add_r, c_lt_i, c_le_i, c_gt_i, c_ge_i, i_tup, i_rl, i_ref, s_tup, s_rl, s_ref, r_tup, q_tup, q_rl, q_ref, l_rl, l_ref, t_append, t_extend, t_pop, m_append, m_extend, m_pop, st_ref, it_tup, it_rl, it_ref, rg_1, rg_2, z_2, z_3, dw_nil, dw_cons, b_abs, b_int, b_intb, b_stri, b_lent, b_lenr, b_lenl, b_tuple, b_list, b_all, b_any, b_sum, b_max, b_min, List.getElem?_cons_zero, List.getElem?_cons_succ, List.set_cons_zero, List.set_cons_succ, ex_some, ex_bl, ex_int, Bool.false_eq_true, if_false, if_true, Tgs.len, DL.Tgs.len]
    refine ⟨size_of (by simp), fun e he => ?_⟩
    have nfe : pf ≠ e := ne_fresh epf he
    have nwe : pw ≠ e := ne_fresh epw he
    have he0 := fresh_sub sb he
    refine cne_nil (by rw [put_ne nwe]; exact epw) put_same ?_
    cases k with
    | zero => cases hd
    | succ k =>
      cases W with
      | nil =>
        simp only [List.reverse_nil, List.isEmpty_nil, Bool.not_true, rE_var, rE_int, rE_str, rE_bl, rE_non, rE_glo, rE_bin, rE_neg, rE_cmp, rE_chn, rE_and, rE_or, rE_not, rE_ife, rE_idx, rE_slc, rE_rev, rE_tup, rE_lst, rE_dic, rE_call, rE_callk, rE_isI, rE_blt, rE_rng, rE_mth, rE_lc, rT_and, rT_or, rT_not, rT_cmp, rT_chn, rT_bl, rT_var, rT_call, rT_isI, rT_blt, rA_nil, rA_cons, rA_star, rTs_nil, rTs_one, rO_no, rO_yes, rI_of, rI_rng, rI_enm, rI_ez, rI_zip, rG_name, rG_tup, rG_sub, rGs_nil, rGs_cons, rS_asg, rS_par, rS_ex, rS_ret, rS_retN, rS_ife, rS_for, rS_whl, rS_never, rS_pass, rS_brk, rS_cont, rSs_nil, rSs_cons, o_add_i, o_sub_i, o_mul_i, o_fdiv_i, o_mod_i, o_pow_i, o_add_t, o_add_s, o_add_r, c_lt_i, c_le_i, c_gt_i, c_ge_i, i_tup, i_rl, i_ref, s_tup, s_rl, s_ref, r_tup, q_tup, q_rl, q_ref, l_rl, l_ref, t_append, t_extend, t_pop, m_append, m_extend, m_pop, st_ref, it_tup, it_rl, it_ref, rg_1, rg_2, z_2, z_3, dw_nil, dw_cons, b_abs, b_int, b_intb, b_stri, b_lent, b_lenr, b_lenl, b_tuple, b_list, b_all, b_any, b_sum, b_max, b_min, List.getElem?_cons_zero, List.getElem?_cons_succ, List.set_cons_zero, List.set_cons_succ, ex_some, ex_bl, ex_int, Bool.false_eq_true, if_false, if_true, Tgs.len, DL.Tgs.len]
        cases hd
        refine sorted_W (by rw [put_ne nfe]; exact epf) ?_ fun q hq => ?_
        · rcases allW_ne' h1 h5 with z | z
          · exact .inl (by rw [List.length_reverse]; exact z)
          · exact .inr fun w hw => z w (List.mem_reverse.mp hw)
        · rw [srt_perm (List.reverse_perm _)]
          exact ⟨_, Sub.refl _, ret_sub ((Sub.ofput he0 sb).put q _) (h q (fresh_sub (Sub.ofput he0 sb) hq))⟩
      | cons z W =>
        have hne : (!((z :: W).reverse).isEmpty) = true := by simp
        rw [hne]
        obtain ⟨zr, zw⟩ := hx z List.mem_cons_self
        simp only [rE_var, rE_int, rE_str, rE_bl, rE_non, rE_glo, rE_bin, rE_neg, rE_cmp, rE_chn, rE_and, rE_or, rE_not, rE_ife, rE_idx, rE_slc, rE_rev, rE_tup, rE_lst, rE_dic, rE_call, rE_callk, rE_isI, rE_blt, rE_rng, rE_mth, rE_lc, rT_and, rT_or, rT_not, rT_cmp, rT_chn, rT_bl, rT_var, rT_call, rT_isI, rT_blt, rA_nil, rA_cons, rA_star, rTs_nil, rTs_one, rO_no, rO_yes, rI_of, rI_rng, rI_enm, rI_ez, rI_zip, rG_name, rG_tup, rG_sub, rGs_nil, rGs_cons, rS_asg, rS_par, rS_ex, rS_ret, rS_retN, rS_ife, rS_for, rS_whl, rS_never, rS_pass, rS_brk, rS_cont, rSs_nil, rSs_cons, o_add_i, o_sub_i, o_mul_i, o_fdiv_i, o_mod_i, o_pow_i, o_add_t, o_add_s, o_add_r, c_lt_i, c_le_i, c_gt_i, c_ge_i, i_tup, i_rl, i_ref, s_tup, s_rl, s_ref, r_tup, q_tup, q_rl, q_ref, l_rl, l_ref, t_append, t_extend, t_pop, m_append, m_extend, m_pop, st_ref, it_tup, it_rl, it_ref, rg_1, rg_2, z_2, z_3, dw_nil, dw_cons, b_abs, b_int, b_intb, b_stri, b_lent, b_lenr, b_lenl, b_tuple, b_list, b_all, b_any, b_sum, b_max, b_min, List.getElem?_cons_zero, List.getElem?_cons_succ, List.set_cons_zero, List.set_cons_succ, ex_some, ex_bl, ex_int, Bool.false_eq_true, if_false, if_true, Tgs.len, DL.Tgs.len]
        have epw2 : put η' e (.lst []) pw = some (.lst (W.reverse.map enc ++ [enc z])) := by
          rw [put_ne nwe, epw, List.reverse_cons, List.map_append]; rfl
        refine ⟨⟨_, epw2⟩, _, _, epw2, _, rfl, rfl, _, _, rfl, _, _, rfl, rfl, ?_⟩
        have hWl : W.length + 1 + 4 * (k + 1) ≤ 13000 := by simpa using hW
        rw [wD_eq]
        simp only [rE_var, rE_int, rE_str, rE_bl, rE_non, rE_glo, rE_bin, rE_neg, rE_cmp, rE_chn, rE_and, rE_or, rE_not, rE_ife, rE_idx, rE_slc, rE_rev, rE_tup, rE_lst, rE_dic, rE_call, rE_callk, rE_isI, rE_blt, rE_rng, rE_mth, rE_lc, rT_and, rT_or, rT_not, rT_cmp, rT_chn, rT_bl, rT_var, rT_call, rT_isI, rT_blt, rA_nil, rA_cons, rA_star, rTs_nil, rTs_one, rO_no, rO_yes, rI_of, rI_rng, rI_enm, rI_ez, rI_zip, rG_name, rG_tup, rG_sub, rGs_nil, rGs_cons, rS_asg, rS_par, rS_ex, rS_ret, rS_retN, rS_ife, rS_for, rS_whl, rS_never, rS_pass, rS_brk, rS_cont, rSs_nil, rSs_cons, o_add_i, o_sub_i, o_mul_i, o_fdiv_i, o_mod_i, o_pow_i, o_add_t, o_add_s, o_add_r, c_lt_i, c_le_i, c_gt_i, c_ge_i, i_tup, i_rl, i_ref, s_tup, s_rl, s_ref, r_tup, q_tup, q_rl, q_ref, l_rl, l_ref, t_append, t_extend, t_pop, m_append, m_extend, m_pop, st_ref, it_tup, it_rl, it_ref, rg_1, rg_2, z_2, z_3, dw_nil, dw_cons, b_abs, b_int, b_intb, b_stri, b_lent, b_lenr, b_lenl, b_tuple, b_list, b_all, b_any, b_sum, b_max, b_min, List.getElem?_cons_zero, List.getElem?_cons_succ, List.set_cons_zero, List.set_cons_succ, ex_some, ex_bl, ex_int, Bool.false_eq_true, if_false, if_true, Tgs.len, DL.Tgs.len]
        refine ⟨_, rfl, _, Sub.refl _, mul_l (by omega), ⟨by decide, by decide⟩, ceq_i ?_⟩
        rw [tri_int h1, wL_len]
        have hx' : ∀ F2 : List (List Nat), ∀ η2 : Sto, F2.length + k ≤ 3200 → dfs m k ((kids m z).reverse ++ W) F2 = some (allW m) → η2 pf = some (.lst (F2.reverse.map wD)) → η2 pw = some (.lst (W.reverse.map enc)) → Sub η η2 → ∀ E : DEnds, (∀ δ η3, (∃ k', k' < k + 1 ∧ ∃ W F d3 d4 d5, dfs m k' W F = some (allW m) ∧ η3 pf = some (.lst (F.reverse.map wD)) ∧ η3 pw = some (.lst (W.reverse.map enc)) ∧ Sub η η3 ∧ W.length + 4 * k' ≤ 13000 ∧ F.length + k' ≤ 3200 ∧ (∀ x ∈ W, x.2.length = m ∧ x.1.length + k' ≤ 3200) ∧ δ = [some (.int (m : Int)), some (.ref pf), some (.ref pw), d3, d4, d5]) → E.nx δ η3) → DL.inR ((m : Int) - 1) ∧ forR (CC (n + 1)) GG (.name 3) bodyW (fun _ => True) (rngD 0 ((m : Int) - 1)) E [some (.int (m : Int)), some (.ref pf), some (.ref pw), d3, some (wD z.1), some (tI z.2)] η2 := by
          intro F2 η2 hF2 hd2 hf2 hw2 sb2 E hE
          refine words_loop h1 h5 zr (by omega) (by omega) nfw hpw0 hpf hf2 hw2 sb2 fun η3 d3 g1 g2 g3 => hE _ _ ⟨k, by omega, _, F2, _, _, _, hd2, g1, g2, g3, ?_, hF2, ?_, rfl⟩
          · rw [List.length_append, List.length_reverse]
            have := kids_le h5 z
            omega
          · intro x hx2
            rcases List.mem_append.mp hx2 with y | y
            · obtain ⟨k1, k2⟩ := kid_len (i := 0) (List.mem_reverse.mp y)
              exact ⟨by omega, by omega⟩
            · obtain ⟨k1, k2⟩ := hx x (List.mem_cons_of_mem _ y)
              exact ⟨k1, by omega⟩
        have epf3 : put (put η' e (.lst [])) pw (.lst (W.reverse.map enc)) pf = some (.lst (F.reverse.map wD)) := by rw [put_ne nfw, put_ne nfe]; exact epf
        have sb3 : Sub η (put (put η' e (.lst [])) pw (.lst (W.reverse.map enc))) := Sub.ofput hpw0 (Sub.ofput he0 sb)
        unfold dfs at hd
        by_cases hlen : z.1.length = tri m
        · rw [if_pos hlen] at hd
          have d1 : decide ((z.1.length : Int) = ((tri m : Nat) : Int)) = true := by simp [hlen]
          simp only [d1, rE_var, rE_int, rE_str, rE_bl, rE_non, rE_glo, rE_bin, rE_neg, rE_cmp, rE_chn, rE_and, rE_or, rE_not, rE_ife, rE_idx, rE_slc, rE_rev, rE_tup, rE_lst, rE_dic, rE_call, rE_callk, rE_isI, rE_blt, rE_rng, rE_mth, rE_lc, rT_and, rT_or, rT_not, rT_cmp, rT_chn, rT_bl, rT_var, rT_call, rT_isI, rT_blt, rA_nil, rA_cons, rA_star, rTs_nil, rTs_one, rO_no, rO_yes, rI_of, rI_rng, rI_enm, rI_ez, rI_zip, rG_name, rG_tup, rG_sub, rGs_nil, rGs_cons, rS_asg, rS_par, rS_ex, rS_ret, rS_retN, rS_ife, rS_for, rS_whl, rS_never, rS_pass, rS_brk, rS_cont, rSs_nil, rSs_cons, o_add_i, o_sub_i, o_mul_i, o_fdiv_i, o_mod_i, o_pow_i, o_add_t, o_add_s, o_add_r, c_lt_i, c_le_i, c_gt_i, c_ge_i, i_tup, i_rl, i_ref, s_tup, s_rl, s_ref, r_tup, q_tup, q_rl, q_ref, l_rl, l_ref, t_append, t_extend, t_pop, m_append, m_extend, m_pop, st_ref, it_tup, it_rl, it_ref, rg_1, rg_2, z_2, z_3, dw_nil, dw_cons, b_abs, b_int, b_intb, b_stri, b_lent, b_lenr, b_lenl, b_tuple, b_list, b_all, b_any, b_sum, b_max, b_min, List.getElem?_cons_zero, List.getElem?_cons_succ, List.set_cons_zero, List.set_cons_succ, ex_some, ex_bl, ex_int, Bool.false_eq_true, if_false, if_true, Tgs.len, DL.Tgs.len]
          refine ⟨⟨_, epf3⟩, _, epf3, ?_, ?_⟩
          · rw [List.length_map, List.length_reverse, sizeLine_eq]; omega
          · refine hx' (z.1 :: F) _ (by simp; omega) hd ?_ ?_ (Sub.ofput hpf sb3) _ fun δ η3 q => q
            · rw [put_same, List.reverse_cons, List.map_append]; rfl
            · rw [put_ne (Ne.symm nfw), put_same]
        · rw [if_neg hlen] at hd
          have d1 : decide ((z.1.length : Int) = ((tri m : Nat) : Int)) = false := by simp; omega
          simp only [d1, rE_var, rE_int, rE_str, rE_bl, rE_non, rE_glo, rE_bin, rE_neg, rE_cmp, rE_chn, rE_and, rE_or, rE_not, rE_ife, rE_idx, rE_slc, rE_rev, rE_tup, rE_lst, rE_dic, rE_call, rE_callk, rE_isI, rE_blt, rE_rng, rE_mth, rE_lc, rT_and, rT_or, rT_not, rT_cmp, rT_chn, rT_bl, rT_var, rT_call, rT_isI, rT_blt, rA_nil, rA_cons, rA_star, rTs_nil, rTs_one, rO_no, rO_yes, rI_of, rI_rng, rI_enm, rI_ez, rI_zip, rG_name, rG_tup, rG_sub, rGs_nil, rGs_cons, rS_asg, rS_par, rS_ex, rS_ret, rS_retN, rS_ife, rS_for, rS_whl, rS_never, rS_pass, rS_brk, rS_cont, rSs_nil, rSs_cons, o_add_i, o_sub_i, o_mul_i, o_fdiv_i, o_mod_i, o_pow_i, o_add_t, o_add_s, o_add_r, c_lt_i, c_le_i, c_gt_i, c_ge_i, i_tup, i_rl, i_ref, s_tup, s_rl, s_ref, r_tup, q_tup, q_rl, q_ref, l_rl, l_ref, t_append, t_extend, t_pop, m_append, m_extend, m_pop, st_ref, it_tup, it_rl, it_ref, rg_1, rg_2, z_2, z_3, dw_nil, dw_cons, b_abs, b_int, b_intb, b_stri, b_lent, b_lenr, b_lenl, b_tuple, b_list, b_all, b_any, b_sum, b_max, b_min, List.getElem?_cons_zero, List.getElem?_cons_succ, List.set_cons_zero, List.set_cons_succ, ex_some, ex_bl, ex_int, Bool.false_eq_true, if_false, if_true, Tgs.len, DL.Tgs.len]
          exact hx' F _ (by omega) hd epf3 put_same sb3 _ fun δ η3 q => q
  · refine ⟨[([], rg m)], [], none, none, none, dfs_all' h1 h5, ?_, ?_, Sub.ofput hpw0 (sub_new hpf), by simp, by simp, ?_, rfl⟩
    · rw [put_ne nfw, put_same]; rfl
    · rw [put_same]; rfl
    · intro x hx
      rw [List.mem_singleton] at hx
      subst hx
      exact ⟨rg_len m, by simp⟩
theorem words {m : Nat} (h1 : 1 ≤ m) (h5 : m ≤ 5) (h : Q (.tup ((srt (allW m)).map wD)) η) : CC (n + 4) (S "words") [.int (m : Int)] η Q := by
  refine u_words ?_
  simp only [o_words, rE_var, rE_int, rE_str, rE_bl, rE_non, rE_glo, rE_bin, rE_neg, rE_cmp, rE_chn, rE_and, rE_or, rE_not, rE_ife, rE_idx, rE_slc, rE_rev, rE_tup, rE_lst, rE_dic, rE_call, rE_callk, rE_isI, rE_blt, rE_rng, rE_mth, rE_lc, rT_and, rT_or, rT_not, rT_cmp, rT_chn, rT_bl, rT_var, rT_call, rT_isI, rT_blt, rA_nil, rA_cons, rA_star, rTs_nil, rTs_one, rO_no, rO_yes, rI_of, rI_rng, rI_enm, rI_ez, rI_zip, rG_name, rG_tup, rG_sub, rGs_nil, rGs_cons, rS_asg, rS_par, rS_ex, rS_ret, rS_retN, rS_ife, rS_for, rS_whl, rS_never, rS_pass, rS_brk, rS_cont, rSs_nil, rSs_cons, o_add_i, o_sub_i, o_mul_i, o_fdiv_i, o_mod_i, o_pow_i, o_add_t, o_add_s, o_add_r, c_lt_i, c_le_i, c_gt_i, c_ge_i, i_tup, i_rl, i_ref, s_tup, s_rl, s_ref, r_tup, q_tup, q_rl, q_ref, l_rl, l_ref, t_append, t_extend, t_pop, m_append, m_extend, m_pop, st_ref, it_tup, it_rl, it_ref, rg_1, rg_2, z_2, z_3, dw_nil, dw_cons, b_abs, b_int, b_intb, b_stri, b_lent, b_lenr, b_lenl, b_tuple, b_list, b_all, b_any, b_sum, b_max, b_min, List.getElem?_cons_zero, List.getElem?_cons_succ, List.set_cons_zero, List.set_cons_succ, ex_some, ex_bl, ex_int, Bool.false_eq_true, if_false, if_true, Tgs.len, DL.Tgs.len]
  refine ⟨_, gg5, check_many (by omega) (by omega) ?_⟩
  refine words_of h1 h5 fun q hq => ?_
  simp only [rE_var, rE_int, rE_str, rE_bl, rE_non, rE_glo, rE_bin, rE_neg, rE_cmp, rE_chn, rE_and, rE_or, rE_not, rE_ife, rE_idx, rE_slc, rE_rev, rE_tup, rE_lst, rE_dic, rE_call, rE_callk, rE_isI, rE_blt, rE_rng, rE_mth, rE_lc, rT_and, rT_or, rT_not, rT_cmp, rT_chn, rT_bl, rT_var, rT_call, rT_isI, rT_blt, rA_nil, rA_cons, rA_star, rTs_nil, rTs_one, rO_no, rO_yes, rI_of, rI_rng, rI_enm, rI_ez, rI_zip, rG_name, rG_tup, rG_sub, rGs_nil, rGs_cons, rS_asg, rS_par, rS_ex, rS_ret, rS_retN, rS_ife, rS_for, rS_whl, rS_never, rS_pass, rS_brk, rS_cont, rSs_nil, rSs_cons, o_add_i, o_sub_i, o_mul_i, o_fdiv_i, o_mod_i, o_pow_i, o_add_t, o_add_s, o_add_r, c_lt_i, c_le_i, c_gt_i, c_ge_i, i_tup, i_rl, i_ref, s_tup, s_rl, s_ref, r_tup, q_tup, q_rl, q_ref, l_rl, l_ref, t_append, t_extend, t_pop, m_append, m_extend, m_pop, st_ref, it_tup, it_rl, it_ref, rg_1, rg_2, z_2, z_3, dw_nil, dw_cons, b_abs, b_int, b_intb, b_stri, b_lent, b_lenr, b_lenl, b_tuple, b_list, b_all, b_any, b_sum, b_max, b_min, List.getElem?_cons_zero, List.getElem?_cons_succ, List.set_cons_zero, List.set_cons_succ, ex_some, ex_bl, ex_int, Bool.false_eq_true, if_false, if_true, Tgs.len, DL.Tgs.len]
  exact ⟨_, put_same, η, sub_new hq, ret_of h⟩
end
end K43

set_option Elab.async false
set_option linter.all false
set_option maxRecDepth 100000
set_option maxHeartbeats 4000000
/-! K43N: the law's count of all words, and its first question. -/
namespace K43
open PySem PySem.Spec PyProof.Rows L2 DL
def ovF : Nat → Int
  | 0 => 1
  | i + 1 => ovF i * ((i + 1 : Nat) : Int)
def unF (m : Nat) : Nat → Int
  | 0 => 1
  | i + 1 => unF m i * (2 * ((i + 1 : Nat) : Int) - 1) ^ (m - (i + 1))
def prodL (m : Nat) : Int := ovF (tri m) / unF m (m - 1)
theorem prod_all : ∀ m : Fin 5, prodL (m.val + 1) = ((allW (m.val + 1)).length : Int) ∧ CDivW (ovF (tri (m.val + 1))) (unF (m.val + 1) m.val) := by
  have h : ∀ m : Fin 5, prodL (m.val + 1) = ((allW (m.val + 1)).length : Int) ∧ (0 < unF (m.val + 1) m.val ∧ (unF (m.val + 1) m.val).natAbs.log2 < 9000) := by decide +kernel
  exact h
theorem all_sm : ∀ m : Fin 5, (allW (m.val + 1)).length ≤ 2000 ∧ ∀ v ∈ allW (m.val + 1), v.length ≤ 10 ∧ ∀ a ∈ v, a ≤ 8 := by decide +kernel
section
variable {n : Nat} {η : Sto} {Q : DK}
theorem law_product {m : Nat} (h1 : 1 ≤ m) (h5 : m ≤ 5) (h : Q (.int (prodL m)) η) : CC (n + 1) (S "_law_product") [.int (m : Int)] η Q := by
  refine u__law_product ?_
  simp only [o__law_product, rE_var, rE_int, rE_str, rE_bl, rE_non, rE_glo, rE_bin, rE_neg, rE_cmp, rE_chn, rE_and, rE_or, rE_not, rE_ife, rE_idx, rE_slc, rE_rev, rE_tup, rE_lst, rE_dic, rE_call, rE_callk, rE_isI, rE_blt, rE_rng, rE_mth, rE_lc, rT_and, rT_or, rT_not, rT_cmp, rT_chn, rT_bl, rT_var, rT_call, rT_isI, rT_blt, rA_nil, rA_cons, rA_star, rTs_nil, rTs_one, rO_no, rO_yes, rI_of, rI_rng, rI_enm, rI_ez, rI_zip, rG_name, rG_tup, rG_sub, rGs_nil, rGs_cons, rS_asg, rS_par, rS_ex, rS_ret, rS_retN, rS_ife, rS_for, rS_whl, rS_never, rS_pass, rS_brk, rS_cont, rSs_nil, rSs_cons, o_add_i, o_sub_i, o_mul_i, o_fdiv_i, o_mod_i, o_pow_i, o_add_t, o_add_s, o_add_r, c_lt_i, c_le_i, c_gt_i, c_ge_i, i_tup, i_rl, i_ref, s_tup, s_rl, s_ref, r_tup, q_tup, q_rl, q_ref, l_rl, l_ref, t_append, t_extend, t_pop, m_append, m_extend, m_pop, st_ref, it_tup, it_rl, it_ref, rg_1, rg_2, z_2, z_3, dw_nil, dw_cons, b_abs, b_int, b_intb, b_stri, b_lent, b_lenr, b_lenl, b_tuple, b_list, b_all, b_any, b_sum, b_max, b_min, List.getElem?_cons_zero, List.getElem?_cons_succ, List.set_cons_zero, List.set_cons_succ, ex_some, ex_bl, ex_int, Bool.false_eq_true, if_false, if_true, Tgs.len, DL.Tgs.len]
  have ht : tri m ≤ 10 := tri_le5 ⟨m, by omega⟩
  refine ⟨size_of (by simp), _, rfl, rfl, _, _, rfl, _, _, rfl, rfl, mul_l (by omega), ⟨by decide, by decide⟩, ?_⟩
  rw [tri_int h1]
  have rng1 : ∀ k : Nat, rngD 1 ((k : Int) + 1) = (List.range k).map fun (i : Nat) => .int ((i + 1 : Nat) : Int) := by
    intro k
    unfold rngD
    have : ((k : Int) + 1 - 1).toNat = k := by omega
    rw [this]
    refine List.map_congr_left fun i _ => ?_
    congr 1; omega
  have rng2 : rngD 1 (m : Int) = (List.range (m - 1)).map fun (i : Nat) => .int ((i + 1 : Nat) : Int) := by
    rw [← rng1]
    congr 1; omega
  have rget : ∀ {k i : Nat} {x : D}, ((List.range k).map fun (i : Nat) => D.int ((i + 1 : Nat) : Int))[i]? = some x → i < k ∧ x = .int ((i + 1 : Nat) : Int) := by
    intro k i x hx
    have hi : i < k := by
      have := (List.getElem?_eq_some_iff.mp hx).1
      rw [List.length_map, List.length_range] at this
      exact this
    rw [List.getElem?_map, List.getElem?_range hi] at hx
    exact ⟨hi, (Option.some.inj hx).symm⟩
  rw [rng1]
  refine ⟨by exact ⟨by omega, by omega⟩, ⟨by omega, by omega⟩, ?_⟩
  refine for_of (rdC_mono _) (fun i δ η' => η' = η ∧ ∃ d1 d4, δ = [some (.int (m : Int)), d1, some (.int (ovF i)), some (.int 1), d4]) (fun i x δ η' hx hj => ?_) (fun δ η' hj => ?_) ?_
  · obtain ⟨rfl, d1, d4, rfl⟩ := hj
    obtain ⟨hi, rfl⟩ := rget hx
    refine ⟨trivial, ?_⟩
    simp only [rE_var, rE_int, rE_str, rE_bl, rE_non, rE_glo, rE_bin, rE_neg, rE_cmp, rE_chn, rE_and, rE_or, rE_not, rE_ife, rE_idx, rE_slc, rE_rev, rE_tup, rE_lst, rE_dic, rE_call, rE_callk, rE_isI, rE_blt, rE_rng, rE_mth, rE_lc, rT_and, rT_or, rT_not, rT_cmp, rT_chn, rT_bl, rT_var, rT_call, rT_isI, rT_blt, rA_nil, rA_cons, rA_star, rTs_nil, rTs_one, rO_no, rO_yes, rI_of, rI_rng, rI_enm, rI_ez, rI_zip, rG_name, rG_tup, rG_sub, rGs_nil, rGs_cons, rS_asg, rS_par, rS_ex, rS_ret, rS_retN, rS_ife, rS_for, rS_whl, rS_never, rS_pass, rS_brk, rS_cont, rSs_nil, rSs_cons, o_add_i, o_sub_i, o_mul_i, o_fdiv_i, o_mod_i, o_pow_i, o_add_t, o_add_s, o_add_r, c_lt_i, c_le_i, c_gt_i, c_ge_i, i_tup, i_rl, i_ref, s_tup, s_rl, s_ref, r_tup, q_tup, q_rl, q_ref, l_rl, l_ref, t_append, t_extend, t_pop, m_append, m_extend, m_pop, st_ref, it_tup, it_rl, it_ref, rg_1, rg_2, z_2, z_3, dw_nil, dw_cons, b_abs, b_int, b_intb, b_stri, b_lent, b_lenr, b_lenl, b_tuple, b_list, b_all, b_any, b_sum, b_max, b_min, List.getElem?_cons_zero, List.getElem?_cons_succ, List.set_cons_zero, List.set_cons_succ, ex_some, ex_bl, ex_int, Bool.false_eq_true, if_false, if_true, Tgs.len, DL.Tgs.len]
    exact ⟨mul_r (by omega), trivial, _, _, rfl⟩
  · obtain ⟨rfl, d1, d4, rfl⟩ := hj
    rw [List.length_map, List.length_range]
    refine ⟨trivial, ?_⟩
    simp only [rE_var, rE_int, rE_str, rE_bl, rE_non, rE_glo, rE_bin, rE_neg, rE_cmp, rE_chn, rE_and, rE_or, rE_not, rE_ife, rE_idx, rE_slc, rE_rev, rE_tup, rE_lst, rE_dic, rE_call, rE_callk, rE_isI, rE_blt, rE_rng, rE_mth, rE_lc, rT_and, rT_or, rT_not, rT_cmp, rT_chn, rT_bl, rT_var, rT_call, rT_isI, rT_blt, rA_nil, rA_cons, rA_star, rTs_nil, rTs_one, rO_no, rO_yes, rI_of, rI_rng, rI_enm, rI_ez, rI_zip, rG_name, rG_tup, rG_sub, rGs_nil, rGs_cons, rS_asg, rS_par, rS_ex, rS_ret, rS_retN, rS_ife, rS_for, rS_whl, rS_never, rS_pass, rS_brk, rS_cont, rSs_nil, rSs_cons, o_add_i, o_sub_i, o_mul_i, o_fdiv_i, o_mod_i, o_pow_i, o_add_t, o_add_s, o_add_r, c_lt_i, c_le_i, c_gt_i, c_ge_i, i_tup, i_rl, i_ref, s_tup, s_rl, s_ref, r_tup, q_tup, q_rl, q_ref, l_rl, l_ref, t_append, t_extend, t_pop, m_append, m_extend, m_pop, st_ref, it_tup, it_rl, it_ref, rg_1, rg_2, z_2, z_3, dw_nil, dw_cons, b_abs, b_int, b_intb, b_stri, b_lent, b_lenr, b_lenl, b_tuple, b_list, b_all, b_any, b_sum, b_max, b_min, List.getElem?_cons_zero, List.getElem?_cons_succ, List.set_cons_zero, List.set_cons_succ, ex_some, ex_bl, ex_int, Bool.false_eq_true, if_false, if_true, Tgs.len, DL.Tgs.len]
    rw [rng2]
    refine ⟨by exact ⟨by omega, by omega⟩, ⟨by omega, by omega⟩, ?_⟩
    refine for_of (rdC_mono _) (fun i δ η2 => η2 = η' ∧ ∃ d1 d4, δ = [some (.int (m : Int)), d1, some (.int (ovF (tri m))), some (.int (unF m i)), d4]) (fun i x δ η2 hx hj => ?_) (fun δ η2 hj => ?_) ?_
    · obtain ⟨rfl, d1, d4, rfl⟩ := hj
      obtain ⟨hi, rfl⟩ := rget hx
      refine ⟨trivial, ?_⟩
      simp only [rE_var, rE_int, rE_str, rE_bl, rE_non, rE_glo, rE_bin, rE_neg, rE_cmp, rE_chn, rE_and, rE_or, rE_not, rE_ife, rE_idx, rE_slc, rE_rev, rE_tup, rE_lst, rE_dic, rE_call, rE_callk, rE_isI, rE_blt, rE_rng, rE_mth, rE_lc, rT_and, rT_or, rT_not, rT_cmp, rT_chn, rT_bl, rT_var, rT_call, rT_isI, rT_blt, rA_nil, rA_cons, rA_star, rTs_nil, rTs_one, rO_no, rO_yes, rI_of, rI_rng, rI_enm, rI_ez, rI_zip, rG_name, rG_tup, rG_sub, rGs_nil, rGs_cons, rS_asg, rS_par, rS_ex, rS_ret, rS_retN, rS_ife, rS_for, rS_whl, rS_never, rS_pass, rS_brk, rS_cont, rSs_nil, rSs_cons, o_add_i, o_sub_i, o_mul_i, o_fdiv_i, o_mod_i, o_pow_i, o_add_t, o_add_s, o_add_r, c_lt_i, c_le_i, c_gt_i, c_ge_i, i_tup, i_rl, i_ref, s_tup, s_rl, s_ref, r_tup, q_tup, q_rl, q_ref, l_rl, l_ref, t_append, t_extend, t_pop, m_append, m_extend, m_pop, st_ref, it_tup, it_rl, it_ref, rg_1, rg_2, z_2, z_3, dw_nil, dw_cons, b_abs, b_int, b_intb, b_stri, b_lent, b_lenr, b_lenl, b_tuple, b_list, b_all, b_any, b_sum, b_max, b_min, List.getElem?_cons_zero, List.getElem?_cons_succ, List.set_cons_zero, List.set_cons_succ, ex_some, ex_bl, ex_int, Bool.false_eq_true, if_false, if_true, Tgs.len, DL.Tgs.len]
      have em : ((m : Int) - ((i + 1 : Nat) : Int)) = ((m - (i + 1) : Nat) : Int) := by omega
      rw [em, rgD_rg]
      refine ⟨inR_nat (by omega), ?_⟩
      refine for_of (rdC_mono _) (fun j δ η3 => η3 = η2 ∧ ∃ d4, δ = [some (.int (m : Int)), some (.int ((i + 1 : Nat) : Int)), some (.int (ovF (tri m))), some (.int (unF m i * (2 * ((i + 1 : Nat) : Int) - 1) ^ j)), d4]) (fun j x δ η3 hx hj => ?_) (fun δ η3 hj => ?_) ?_
      · obtain ⟨rfl, d4, rfl⟩ := hj
        refine ⟨trivial, ?_⟩
        simp only [rE_var, rE_int, rE_str, rE_bl, rE_non, rE_glo, rE_bin, rE_neg, rE_cmp, rE_chn, rE_and, rE_or, rE_not, rE_ife, rE_idx, rE_slc, rE_rev, rE_tup, rE_lst, rE_dic, rE_call, rE_callk, rE_isI, rE_blt, rE_rng, rE_mth, rE_lc, rT_and, rT_or, rT_not, rT_cmp, rT_chn, rT_bl, rT_var, rT_call, rT_isI, rT_blt, rA_nil, rA_cons, rA_star, rTs_nil, rTs_one, rO_no, rO_yes, rI_of, rI_rng, rI_enm, rI_ez, rI_zip, rG_name, rG_tup, rG_sub, rGs_nil, rGs_cons, rS_asg, rS_par, rS_ex, rS_ret, rS_retN, rS_ife, rS_for, rS_whl, rS_never, rS_pass, rS_brk, rS_cont, rSs_nil, rSs_cons, o_add_i, o_sub_i, o_mul_i, o_fdiv_i, o_mod_i, o_pow_i, o_add_t, o_add_s, o_add_r, c_lt_i, c_le_i, c_gt_i, c_ge_i, i_tup, i_rl, i_ref, s_tup, s_rl, s_ref, r_tup, q_tup, q_rl, q_ref, l_rl, l_ref, t_append, t_extend, t_pop, m_append, m_extend, m_pop, st_ref, it_tup, it_rl, it_ref, rg_1, rg_2, z_2, z_3, dw_nil, dw_cons, b_abs, b_int, b_intb, b_stri, b_lent, b_lenr, b_lenl, b_tuple, b_list, b_all, b_any, b_sum, b_max, b_min, List.getElem?_cons_zero, List.getElem?_cons_succ, List.set_cons_zero, List.set_cons_succ, ex_some, ex_bl, ex_int, Bool.false_eq_true, if_false, if_true, Tgs.len, DL.Tgs.len]
        refine ⟨mul_l (by decide), mul_r (by omega), trivial, some x, ?_⟩
        rw [Int.pow_succ, Int.mul_assoc]
      · obtain ⟨rfl, d4, rfl⟩ := hj
        rw [List.length_map, rg_len]
        exact ⟨trivial, rfl, _, _, rfl⟩
      · exact ⟨rfl, d4, by simp⟩
    · obtain ⟨rfl, d1, d4, rfl⟩ := hj
      rw [List.length_map, List.length_range]
      refine ⟨trivial, ?_⟩
      simp only [rE_var, rE_int, rE_str, rE_bl, rE_non, rE_glo, rE_bin, rE_neg, rE_cmp, rE_chn, rE_and, rE_or, rE_not, rE_ife, rE_idx, rE_slc, rE_rev, rE_tup, rE_lst, rE_dic, rE_call, rE_callk, rE_isI, rE_blt, rE_rng, rE_mth, rE_lc, rT_and, rT_or, rT_not, rT_cmp, rT_chn, rT_bl, rT_var, rT_call, rT_isI, rT_blt, rA_nil, rA_cons, rA_star, rTs_nil, rTs_one, rO_no, rO_yes, rI_of, rI_rng, rI_enm, rI_ez, rI_zip, rG_name, rG_tup, rG_sub, rGs_nil, rGs_cons, rS_asg, rS_par, rS_ex, rS_ret, rS_retN, rS_ife, rS_for, rS_whl, rS_never, rS_pass, rS_brk, rS_cont, rSs_nil, rSs_cons, o_add_i, o_sub_i, o_mul_i, o_fdiv_i, o_mod_i, o_pow_i, o_add_t, o_add_s, o_add_r, c_lt_i, c_le_i, c_gt_i, c_ge_i, i_tup, i_rl, i_ref, s_tup, s_rl, s_ref, r_tup, q_tup, q_rl, q_ref, l_rl, l_ref, t_append, t_extend, t_pop, m_append, m_extend, m_pop, st_ref, it_tup, it_rl, it_ref, rg_1, rg_2, z_2, z_3, dw_nil, dw_cons, b_abs, b_int, b_intb, b_stri, b_lent, b_lenr, b_lenl, b_tuple, b_list, b_all, b_any, b_sum, b_max, b_min, List.getElem?_cons_zero, List.getElem?_cons_succ, List.set_cons_zero, List.set_cons_succ, ex_some, ex_bl, ex_int, Bool.false_eq_true, if_false, if_true, Tgs.len, DL.Tgs.len]
      obtain ⟨k, rfl⟩ : ∃ k, m = k + 1 := ⟨m - 1, by omega⟩
      exact ⟨(prod_all ⟨k, by omega⟩).2, ret_of h⟩
    · exact ⟨rfl, _, _, rfl⟩
  · exact ⟨rfl, _, _, rfl⟩
def txt (L : List (List Int)) : Str := PyData.shown (.tuple (L.map pI))
theorem repr_tups {L : List (List Int)} (hl : L.length ≤ 2000) (hL : ∀ l ∈ L, l.length ≤ 90 ∧ ∀ i ∈ l, -150 ≤ i ∧ i ≤ 150) (hQ : Q (.str (txt L)) η) : bltD .repr [.tup (L.map tI)] η Q := by
  refine repr_of (p := .tuple (L.map pI)) (.tup (Pds_map fun l _ => pd_tI l)) ?_ ?_ ?_ hQ
  · simp only [Sm]
    exact Sms_all fun p hp => by
      obtain ⟨l, hl, rfl⟩ := List.mem_map.mp hp
      exact Sm_pI (hL l hl).2
  · simp only [PyData.depth]
    have : PyData.depthAll (L.map pI) ≤ 1 := depth_le fun p hp => by
      obtain ⟨l, hl, rfl⟩ := List.mem_map.mp hp
      exact depth_pI l
    omega
  · simp only [wt]
    have : wts (L.map pI) ≤ 91 * (L.map pI).length := wts_le fun p hp => by
      obtain ⟨l, hl, rfl⟩ := List.mem_map.mp hp
      have := wt_pI l
      have := (hL l hl).1
      omega
    rw [List.length_map] at this
    omega
theorem wDs_tI (L : List (List Nat)) : L.map wD = (L.map toI).map tI := by
  rw [List.map_map]
  exact List.map_congr_left fun w _ => wD_tI w
theorem repr_words {L : List (List Nat)} (hl : L.length ≤ 2000) (hL : ∀ l ∈ L, l.length ≤ 90 ∧ ∀ i ∈ l, i ≤ 100) (hQ : Q (.str (txt (L.map toI))) η) : bltD .repr [.tup (L.map wD)] η Q := by
  rw [wDs_tI]
  refine repr_tups (by rw [List.length_map]; exact hl) (fun l h => ?_) hQ
  obtain ⟨w, hw, rfl⟩ := List.mem_map.mp h
  obtain ⟨k1, k2⟩ := hL w hw
  unfold toI
  rw [List.length_map]
  refine ⟨k1, fun i hi => ?_⟩
  obtain ⟨a, ha, rfl⟩ := List.mem_map.mp hi
  have := k2 a ha
  omega
theorem srt_mem {L : List (List Nat)} {w : List Nat} : w ∈ srt L ↔ w ∈ L := (List.mergeSort_perm L leW).mem_iff
theorem srt_len (L : List (List Nat)) : (srt L).length = L.length := (List.mergeSort_perm L leW).length_eq
theorem law_are_all_right {p : Addr} {c : Nat} (hp : Pot η p c) (hc : c ≤ 100000) (h : ∀ η', Pot η' p (c + 1) → Fr p η η' → Q (.bl true) η') : CC (n + 5) (S "_law_are_all_right") [.ref p] η Q := by
  refine u__law_are_all_right ?_
  simp only [o__law_are_all_right, rE_var, rE_int, rE_str, rE_bl, rE_non, rE_glo, rE_bin, rE_neg, rE_cmp, rE_chn, rE_and, rE_or, rE_not, rE_ife, rE_idx, rE_slc, rE_rev, rE_tup, rE_lst, rE_dic, rE_call, rE_callk, rE_isI, rE_blt, rE_rng, rE_mth, rE_lc, rT_and, rT_or, rT_not, rT_cmp, rT_chn, rT_bl, rT_var, rT_call, rT_isI, rT_blt, rA_nil, rA_cons, rA_star, rTs_nil, rTs_one, rO_no, rO_yes, rI_of, rI_rng, rI_enm, rI_ez, rI_zip, rG_name, rG_tup, rG_sub, rGs_nil, rGs_cons, rS_asg, rS_par, rS_ex, rS_ret, rS_retN, rS_ife, rS_for, rS_whl, rS_never, rS_pass, rS_brk, rS_cont, rSs_nil, rSs_cons, o_add_i, o_sub_i, o_mul_i, o_fdiv_i, o_mod_i, o_pow_i, o_add_t, o_add_s, o_add_r, c_lt_i, c_le_i, c_gt_i, c_ge_i, i_tup, i_rl, i_ref, s_tup, s_rl, s_ref, r_tup, q_tup, q_rl, q_ref, l_rl, l_ref, t_append, t_extend, t_pop, m_append, m_extend, m_pop, st_ref, it_tup, it_rl, it_ref, rg_1, rg_2, z_2, z_3, dw_nil, dw_cons, b_abs, b_int, b_intb, b_stri, b_lent, b_lenr, b_lenl, b_tuple, b_list, b_all, b_any, b_sum, b_max, b_min, List.getElem?_cons_zero, List.getElem?_cons_succ, List.set_cons_zero, List.set_cons_succ, ex_some, ex_bl, ex_int, Bool.false_eq_true, if_false, if_true, Tgs.len, DL.Tgs.len]
  refine law_take hp (by decide) (by decide) (by omega) fun r η1 h0 h5 hp1 fr1 => ?_
  obtain ⟨m, hm1, hm5, em⟩ : ∃ m : Nat, 1 ≤ m ∧ m ≤ 5 ∧ 1 + r = (m : Int) := ⟨(1 + r).toNat, by omega, by omega, by omega⟩
  simp only [rE_var, rE_int, rE_str, rE_bl, rE_non, rE_glo, rE_bin, rE_neg, rE_cmp, rE_chn, rE_and, rE_or, rE_not, rE_ife, rE_idx, rE_slc, rE_rev, rE_tup, rE_lst, rE_dic, rE_call, rE_callk, rE_isI, rE_blt, rE_rng, rE_mth, rE_lc, rT_and, rT_or, rT_not, rT_cmp, rT_chn, rT_bl, rT_var, rT_call, rT_isI, rT_blt, rA_nil, rA_cons, rA_star, rTs_nil, rTs_one, rO_no, rO_yes, rI_of, rI_rng, rI_enm, rI_ez, rI_zip, rG_name, rG_tup, rG_sub, rGs_nil, rGs_cons, rS_asg, rS_par, rS_ex, rS_ret, rS_retN, rS_ife, rS_for, rS_whl, rS_never, rS_pass, rS_brk, rS_cont, rSs_nil, rSs_cons, o_add_i, o_sub_i, o_mul_i, o_fdiv_i, o_mod_i, o_pow_i, o_add_t, o_add_s, o_add_r, c_lt_i, c_le_i, c_gt_i, c_ge_i, i_tup, i_rl, i_ref, s_tup, s_rl, s_ref, r_tup, q_tup, q_rl, q_ref, l_rl, l_ref, t_append, t_extend, t_pop, m_append, m_extend, m_pop, st_ref, it_tup, it_rl, it_ref, rg_1, rg_2, z_2, z_3, dw_nil, dw_cons, b_abs, b_int, b_intb, b_stri, b_lent, b_lenr, b_lenl, b_tuple, b_list, b_all, b_any, b_sum, b_max, b_min, List.getElem?_cons_zero, List.getElem?_cons_succ, List.set_cons_zero, List.set_cons_succ, ex_some, ex_bl, ex_int, Bool.false_eq_true, if_false, if_true, Tgs.len, DL.Tgs.len]
  rw [em]
  have sm : (allW m).length ≤ 2000 ∧ ∀ l ∈ srt (allW m), l.length ≤ 90 ∧ ∀ i ∈ l, i ≤ 100 := by
    obtain ⟨k, rfl⟩ : ∃ k, m = k + 1 := ⟨m - 1, by omega⟩
    refine ⟨(all_sm ⟨k, by omega⟩).1, fun l hl => ?_⟩
    · obtain ⟨k1, k2⟩ := (all_sm ⟨k, by omega⟩).2 l (srt_mem.mp hl)
      exact ⟨by omega, fun i hi => by have := k2 i hi; omega⟩
  refine words hm1 hm5 ?_
  have lenp : prodL m = ((allW m).length : Int) := by
    obtain ⟨k, rfl⟩ : ∃ k, m = k + 1 := ⟨m - 1, by omega⟩
    exact (prod_all ⟨k, by omega⟩).1
  have slen : (srt (allW m)).length ≤ 2000 := by rw [srt_len]; exact sm.1
  refine repr_words slen sm.2 ⟨_, Sub.refl _, law_all_words hm1 hm5 fun q hq => ?_⟩
  simp only [rE_var, rE_int, rE_str, rE_bl, rE_non, rE_glo, rE_bin, rE_neg, rE_cmp, rE_chn, rE_and, rE_or, rE_not, rE_ife, rE_idx, rE_slc, rE_rev, rE_tup, rE_lst, rE_dic, rE_call, rE_callk, rE_isI, rE_blt, rE_rng, rE_mth, rE_lc, rT_and, rT_or, rT_not, rT_cmp, rT_chn, rT_bl, rT_var, rT_call, rT_isI, rT_blt, rA_nil, rA_cons, rA_star, rTs_nil, rTs_one, rO_no, rO_yes, rI_of, rI_rng, rI_enm, rI_ez, rI_zip, rG_name, rG_tup, rG_sub, rGs_nil, rGs_cons, rS_asg, rS_par, rS_ex, rS_ret, rS_retN, rS_ife, rS_for, rS_whl, rS_never, rS_pass, rS_brk, rS_cont, rSs_nil, rSs_cons, o_add_i, o_sub_i, o_mul_i, o_fdiv_i, o_mod_i, o_pow_i, o_add_t, o_add_s, o_add_r, c_lt_i, c_le_i, c_gt_i, c_ge_i, i_tup, i_rl, i_ref, s_tup, s_rl, s_ref, r_tup, q_tup, q_rl, q_ref, l_rl, l_ref, t_append, t_extend, t_pop, m_append, m_extend, m_pop, st_ref, it_tup, it_rl, it_ref, rg_1, rg_2, z_2, z_3, dw_nil, dw_cons, b_abs, b_int, b_intb, b_stri, b_lent, b_lenr, b_lenl, b_tuple, b_list, b_all, b_any, b_sum, b_max, b_min, List.getElem?_cons_zero, List.getElem?_cons_succ, List.set_cons_zero, List.set_cons_succ, ex_some, ex_bl, ex_int, Bool.false_eq_true, if_false, if_true, Tgs.len, DL.Tgs.len]
  refine ⟨_, put_same, η1, sub_new hq, repr_words slen sm.2 ⟨_, Sub.refl _, ceq_s ?_⟩⟩
  simp only [decide_true, rE_var, rE_int, rE_str, rE_bl, rE_non, rE_glo, rE_bin, rE_neg, rE_cmp, rE_chn, rE_and, rE_or, rE_not, rE_ife, rE_idx, rE_slc, rE_rev, rE_tup, rE_lst, rE_dic, rE_call, rE_callk, rE_isI, rE_blt, rE_rng, rE_mth, rE_lc, rT_and, rT_or, rT_not, rT_cmp, rT_chn, rT_bl, rT_var, rT_call, rT_isI, rT_blt, rA_nil, rA_cons, rA_star, rTs_nil, rTs_one, rO_no, rO_yes, rI_of, rI_rng, rI_enm, rI_ez, rI_zip, rG_name, rG_tup, rG_sub, rGs_nil, rGs_cons, rS_asg, rS_par, rS_ex, rS_ret, rS_retN, rS_ife, rS_for, rS_whl, rS_never, rS_pass, rS_brk, rS_cont, rSs_nil, rSs_cons, o_add_i, o_sub_i, o_mul_i, o_fdiv_i, o_mod_i, o_pow_i, o_add_t, o_add_s, o_add_r, c_lt_i, c_le_i, c_gt_i, c_ge_i, i_tup, i_rl, i_ref, s_tup, s_rl, s_ref, r_tup, q_tup, q_rl, q_ref, l_rl, l_ref, t_append, t_extend, t_pop, m_append, m_extend, m_pop, st_ref, it_tup, it_rl, it_ref, rg_1, rg_2, z_2, z_3, dw_nil, dw_cons, b_abs, b_int, b_intb, b_stri, b_lent, b_lenr, b_lenl, b_tuple, b_list, b_all, b_any, b_sum, b_max, b_min, List.getElem?_cons_zero, List.getElem?_cons_succ, List.set_cons_zero, List.set_cons_succ, ex_some, ex_bl, ex_int, Bool.false_eq_true, if_false, if_true, Tgs.len, DL.Tgs.len]
  refine ⟨_, rfl, _, Sub.refl _, law_product hm1 hm5 (ceq_i ?_)⟩
  rw [List.length_map, srt_len, lenp]
  simp only [decide_true]
  exact ret_of (h η1 hp1 fr1)
end
end K43

set_option Elab.async false
set_option linter.all false
set_option maxRecDepth 100000
set_option maxHeartbeats 4000000
/-! K43O: the values that the law asks about. -/
namespace K43
open PySem PySem.Spec PyProof.Rows L2 DL
/-- an item as data -/
def pItm : D → PyData
  | .non => .none
  | .bl b => .bool b
  | .int i => .int i
  | .str x => .str x
  | .tup [.int i] => .tuple [.int i]
  | _ => .none
theorem itm_pd {η : Sto} : ∀ {d : D}, Itm d = true → Pd η d (pItm d) ∧ Sm (pItm d) = true ∧ (pItm d).depth ≤ 1 ∧ wt (pItm d) ≤ 2
  | .non, _ => ⟨.non, rfl, by simp [pItm, PyData.depth], by simp [pItm, wt]⟩
  | .bl b, _ => ⟨.bl b, rfl, by simp [pItm, PyData.depth], by simp [pItm, wt]⟩
  | .int i, h => ⟨.int i, h, by simp [pItm, PyData.depth], by simp [pItm, wt]⟩
  | .str x, h => ⟨.str x, h, by simp [pItm, PyData.depth], by simp [pItm, wt]⟩
  | .tup [.int i], h => ⟨.tup (.cons (.int i) .nil), by simp only [Itm] at h; simp [pItm, Sm, Sms]; simpa using h, by simp [pItm, PyData.depth, PyData.depthAll], by simp [pItm, wt, wts]⟩
  | .rl _, h => by simp [Itm] at h
  | .ref _, h => by simp [Itm] at h
  | .tup [], h => by simp [Itm] at h
  | .tup (.non :: _), h => by simp [Itm] at h
  | .tup (.bl _ :: _), h => by simp [Itm] at h
  | .tup (.str _ :: _), h => by simp [Itm] at h
  | .tup (.tup _ :: _), h => by simp [Itm] at h
  | .tup (.rl _ :: _), h => by simp [Itm] at h
  | .tup (.ref _ :: _), h => by simp [Itm] at h
  | .tup (.int _ :: _ :: _), h => by simp [Itm] at h
theorem itm_cls {η : Sto} : ∀ {d : D}, Itm d = true → ∃ c, clsD d η c
  | .non, _ => ⟨_, rfl⟩
  | .bl b, _ => ⟨_, rfl⟩
  | .int i, h => ⟨_, rfl⟩
  | .str x, h => ⟨_, rfl⟩
  | .tup _, h => ⟨_, rfl⟩
  | .rl _, h => by simp [Itm] at h
  | .ref _, h => by simp [Itm] at h
theorem itms {η : Sto} {xs : List D} (h : ∀ x ∈ xs, Itm x = true) (hl : xs.length ≤ 200) : Pds η xs (xs.map pItm) ∧ Sms (xs.map pItm) = true ∧ PyData.depthAll (xs.map pItm) ≤ 1 ∧ wts (xs.map pItm) ≤ 400 := by
  refine ⟨?_, ?_, ?_, ?_⟩
  · have := Pds_map (η := η) (f := fun x : D => x) (g := pItm) (l := xs) fun a ha => (itm_pd (h a ha)).1
    simpa using this
  · exact Sms_all fun p hp => by
      obtain ⟨x, hx, rfl⟩ := List.mem_map.mp hp
      exact (itm_pd (η := η) (h x hx)).2.1
  · exact depth_le fun p hp => by
      obtain ⟨x, hx, rfl⟩ := List.mem_map.mp hp
      exact (itm_pd (η := η) (h x hx)).2.2.1
  · have : wts (xs.map pItm) ≤ 2 * (xs.map pItm).length := wts_le fun p hp => by
      obtain ⟨x, hx, rfl⟩ := List.mem_map.mp hp
      exact (itm_pd (η := η) (h x hx)).2.2.2
    rw [List.length_map] at this
    omega
theorem val_repr {p : Addr} {η : Sto} {d : D} (h : Val p η d) : ∃ t, ∀ Q : DK, Q (.str t) η → bltD .repr [d] η Q := by
  cases h with
  | itm _ h =>
    obtain ⟨h1, h2, h3, h4⟩ := itm_pd (η := η) h
    exact ⟨_, fun Q q => repr_of h1 h2 (by omega) (by omega) q⟩
  | tup xs hl h =>
    obtain ⟨h1, h2, h3, h4⟩ := itms (η := η) h hl
    exact ⟨_, fun Q q => repr_of (.tup h1) (by simpa only [Sm] using h2) (by simp only [PyData.depth]; omega) (by simp only [wt]; omega) q⟩
  | lst a xs _ e hl h =>
    obtain ⟨h1, h2, h3, h4⟩ := itms (η := η) h hl
    exact ⟨_, fun Q q => repr_of (.lst e h1) (by simpa only [Sm] using h2) (by simp only [PyData.depth]; omega) (by simp only [wt]; omega) q⟩
  | dic a _ e =>
    refine ⟨PyData.shown (.dict []), fun Q q => ?_⟩
    rw [b_repr]
    exact ⟨_, .dic e, ⟨by simp [PyData.showable, PyData.showableKv], .inr rfl, by simp [PyData.depth, PyData.depthKv]⟩, by rw [sizeLine_eq]; decide +kernel, q⟩
theorem bool_repr {b : Bool} {η : Sto} {Q : DK} (q : Q (.str (PyData.shown (.bool b))) η) : bltD .repr [.bl b] η Q := repr_of (.bl b) rfl (by simp [PyData.depth]) (by simp [wt]) q
theorem val_word {p : Addr} {η : Sto} {d : D} {m : Nat} (h1 : 1 ≤ m) (h9 : m ≤ 9) (h : Val p η d) : ∃ b, (∀ n (Q : DK), Q (.bl b) η → CC (n + 5) (S "is_word") [.int (m : Int), d] η Q) ∧ ∀ n (Q : DK), Q (.bl b) η → CC (n + 2) (S "_law_is_word") [.int (m : Int), d] η Q := by
  have not_ : ∀ c, clsD d η c → isCls c "tuple" = false → ∃ b, (∀ n (Q : DK), Q (.bl b) η → CC (n + 5) (S "is_word") [.int (m : Int), d] η Q) ∧ ∀ n (Q : DK), Q (.bl b) η → CC (n + 2) (S "_law_is_word") [.int (m : Int), d] η Q :=
    fun c hc hn => ⟨false, fun n Q q => is_word_not h1 h9 hc hn q, fun n Q q => law_is_word_not hc hn q⟩
  have tup_ : ∀ xs, d = .tup xs → xs.length ≤ 200 → (∀ x ∈ xs, ∃ c, clsD x η c) → ∃ b, (∀ n (Q : DK), Q (.bl b) η → CC (n + 5) (S "is_word") [.int (m : Int), d] η Q) ∧ ∀ n (Q : DK), Q (.bl b) η → CC (n + 2) (S "_law_is_word") [.int (m : Int), d] η Q := by
    intro xs e hl hc
    subst e
    exact ⟨isW m xs, fun n Q q => is_word_tup h1 h9 hc (by omega) q, fun n Q q => law_is_word_tup h1 h9 hc (by omega) q⟩
  cases h with
  | itm _ h =>
    match d, h with
    | .non, _ => exact not_ _ rfl rfl
    | .bl b, _ => exact not_ _ rfl rfl
    | .int i, _ => exact not_ _ rfl rfl
    | .str x, _ => exact not_ _ rfl rfl
    | .tup [.int i], _ => exact tup_ _ rfl (by simp) (fun x hx => by rw [List.mem_singleton] at hx; subst hx; exact ⟨_, rfl⟩)
  | tup xs hl h => exact tup_ xs rfl hl fun x hx => itm_cls (h x hx)
  | lst a xs _ e hl h => exact not_ "list" (.inl ⟨_, e, rfl⟩) rfl
  | dic a _ e => exact not_ "dict" (.inr ⟨_, e, rfl⟩) rfl
def askB : Ss := .cons (.asg (.name 7) (.blt .repr (.cons (.var 6) .nil))) (.cons (.ife (.or (.cmp .ne (.blt .repr (.cons (.callk (Str.ofString "is_word") [] (.cons (.var 1) (.cons (.var 6) .nil))) .nil)) (.blt .repr (.cons (.call (Str.ofString "_law_is_word") (.cons (.var 1) (.cons (.var 6) .nil))) .nil))) (.cmp .ne (.blt .repr (.cons (.var 6) .nil)) (.var 7))) (.cons (.ret (.bl false)) .nil) .nil) .nil)
def askS : Ss := .cons (.for_ (.name 6) (.of (.var 4)) askB) (.cons (.ret (.bl true)) .nil)
section
variable {n : Nat} {η : Sto} {Q : DK}
theorem right_ask {p v : Addr} {m : Nat} {vs : List D} {d2 d3 d5 d6 d7 d8 d9 d10 : Option D} (h1 : 1 ≤ m) (h9 : m ≤ 9) (ev : η v = some (.lst vs)) (hv : ∀ d ∈ vs, Val p η d) (h : (retE Q).rt (.bl true) η) :
    rdSs (CC (n + 6)) GG askS (retE Q) [some (.ref p), some (.int (m : Int)), d2, d3, some (.ref v), d5, d6, d7, d8, d9, d10] η := by
  simp only [askS, rE_var, rE_int, rE_str, rE_bl, rE_non, rE_glo, rE_bin, rE_neg, rE_cmp, rE_chn, rE_and, rE_or, rE_not, rE_ife, rE_idx, rE_slc, rE_rev, rE_tup, rE_lst, rE_dic, rE_call, rE_callk, rE_isI, rE_blt, rE_rng, rE_mth, rE_lc, rT_and, rT_or, rT_not, rT_cmp, rT_chn, rT_bl, rT_var, rT_call, rT_isI, rT_blt, rA_nil, rA_cons, rA_star, rTs_nil, rTs_one, rO_no, rO_yes, rI_of, rI_rng, rI_enm, rI_ez, rI_zip, rG_name, rG_tup, rG_sub, rGs_nil, rGs_cons, rS_asg, rS_par, rS_ex, rS_ret, rS_retN, rS_ife, rS_for, rS_whl, rS_never, rS_pass, rS_brk, rS_cont, rSs_nil, rSs_cons, o_add_i, o_sub_i, o_mul_i, o_fdiv_i, o_mod_i, o_pow_i, o_add_t, o_add_s, o_add_r, c_lt_i, c_le_i, c_gt_i, c_ge_i, i_tup, i_rl, i_ref, s_tup, s_rl, s_ref, r_tup, q_tup, q_rl, q_ref, l_rl, l_ref, t_append, t_extend, t_pop, m_append, m_extend, m_pop, st_ref, it_tup, it_rl, it_ref, rg_1, rg_2, z_2, z_3, dw_nil, dw_cons, b_abs, b_int, b_intb, b_stri, b_lent, b_lenr, b_lenl, b_tuple, b_list, b_all, b_any, b_sum, b_max, b_min, List.getElem?_cons_zero, List.getElem?_cons_succ, List.set_cons_zero, List.set_cons_succ, ex_some, ex_bl, ex_int, Bool.false_eq_true, if_false, if_true, Tgs.len, DL.Tgs.len]
  refine ⟨vs, ev, ?_⟩
  refine for_of (rdC_mono _) (fun i δ η' => η' = η ∧ ∃ d6 d7, δ = [some (.ref p), some (.int (m : Int)), d2, d3, some (.ref v), d5, d6, d7, d8, d9, d10]) (fun i x δ η' hx hj => ?_) (fun δ η' hj => ?_) ⟨rfl, _, _, rfl⟩
  · obtain ⟨rfl, d6, d7, rfl⟩ := hj
    refine ⟨ev, ?_⟩
    have hx' := hv x (List.mem_of_getElem? hx)
    obtain ⟨t, ht⟩ := val_repr hx'
    obtain ⟨b, hb1, hb2⟩ := val_word h1 h9 hx'
    simp only [askB, rE_var, rE_int, rE_str, rE_bl, rE_non, rE_glo, rE_bin, rE_neg, rE_cmp, rE_chn, rE_and, rE_or, rE_not, rE_ife, rE_idx, rE_slc, rE_rev, rE_tup, rE_lst, rE_dic, rE_call, rE_callk, rE_isI, rE_blt, rE_rng, rE_mth, rE_lc, rT_and, rT_or, rT_not, rT_cmp, rT_chn, rT_bl, rT_var, rT_call, rT_isI, rT_blt, rA_nil, rA_cons, rA_star, rTs_nil, rTs_one, rO_no, rO_yes, rI_of, rI_rng, rI_enm, rI_ez, rI_zip, rG_name, rG_tup, rG_sub, rGs_nil, rGs_cons, rS_asg, rS_par, rS_ex, rS_ret, rS_retN, rS_ife, rS_for, rS_whl, rS_never, rS_pass, rS_brk, rS_cont, rSs_nil, rSs_cons, o_add_i, o_sub_i, o_mul_i, o_fdiv_i, o_mod_i, o_pow_i, o_add_t, o_add_s, o_add_r, c_lt_i, c_le_i, c_gt_i, c_ge_i, i_tup, i_rl, i_ref, s_tup, s_rl, s_ref, r_tup, q_tup, q_rl, q_ref, l_rl, l_ref, t_append, t_extend, t_pop, m_append, m_extend, m_pop, st_ref, it_tup, it_rl, it_ref, rg_1, rg_2, z_2, z_3, dw_nil, dw_cons, b_abs, b_int, b_intb, b_stri, b_lent, b_lenr, b_lenl, b_tuple, b_list, b_all, b_any, b_sum, b_max, b_min, List.getElem?_cons_zero, List.getElem?_cons_succ, List.set_cons_zero, List.set_cons_succ, ex_some, ex_bl, ex_int, Bool.false_eq_true, if_false, if_true, Tgs.len, DL.Tgs.len]
    refine ht _ ⟨_, Sub.refl _, hb1 _ _ (bool_repr ⟨_, Sub.refl _, hb2 _ _ (bool_repr ⟨_, Sub.refl _, cne_s ?_⟩)⟩)⟩
    simp only [decide_true, Bool.not_true, rE_var, rE_int, rE_str, rE_bl, rE_non, rE_glo, rE_bin, rE_neg, rE_cmp, rE_chn, rE_and, rE_or, rE_not, rE_ife, rE_idx, rE_slc, rE_rev, rE_tup, rE_lst, rE_dic, rE_call, rE_callk, rE_isI, rE_blt, rE_rng, rE_mth, rE_lc, rT_and, rT_or, rT_not, rT_cmp, rT_chn, rT_bl, rT_var, rT_call, rT_isI, rT_blt, rA_nil, rA_cons, rA_star, rTs_nil, rTs_one, rO_no, rO_yes, rI_of, rI_rng, rI_enm, rI_ez, rI_zip, rG_name, rG_tup, rG_sub, rGs_nil, rGs_cons, rS_asg, rS_par, rS_ex, rS_ret, rS_retN, rS_ife, rS_for, rS_whl, rS_never, rS_pass, rS_brk, rS_cont, rSs_nil, rSs_cons, o_add_i, o_sub_i, o_mul_i, o_fdiv_i, o_mod_i, o_pow_i, o_add_t, o_add_s, o_add_r, c_lt_i, c_le_i, c_gt_i, c_ge_i, i_tup, i_rl, i_ref, s_tup, s_rl, s_ref, r_tup, q_tup, q_rl, q_ref, l_rl, l_ref, t_append, t_extend, t_pop, m_append, m_extend, m_pop, st_ref, it_tup, it_rl, it_ref, rg_1, rg_2, z_2, z_3, dw_nil, dw_cons, b_abs, b_int, b_intb, b_stri, b_lent, b_lenr, b_lenl, b_tuple, b_list, b_all, b_any, b_sum, b_max, b_min, List.getElem?_cons_zero, List.getElem?_cons_succ, List.set_cons_zero, List.set_cons_succ, ex_some, ex_bl, ex_int, Bool.false_eq_true, if_false, if_true, Tgs.len, DL.Tgs.len]
    refine ht _ ⟨_, Sub.refl _, cne_s ?_⟩
    simp only [decide_true, Bool.not_true, rE_var, rE_int, rE_str, rE_bl, rE_non, rE_glo, rE_bin, rE_neg, rE_cmp, rE_chn, rE_and, rE_or, rE_not, rE_ife, rE_idx, rE_slc, rE_rev, rE_tup, rE_lst, rE_dic, rE_call, rE_callk, rE_isI, rE_blt, rE_rng, rE_mth, rE_lc, rT_and, rT_or, rT_not, rT_cmp, rT_chn, rT_bl, rT_var, rT_call, rT_isI, rT_blt, rA_nil, rA_cons, rA_star, rTs_nil, rTs_one, rO_no, rO_yes, rI_of, rI_rng, rI_enm, rI_ez, rI_zip, rG_name, rG_tup, rG_sub, rGs_nil, rGs_cons, rS_asg, rS_par, rS_ex, rS_ret, rS_retN, rS_ife, rS_for, rS_whl, rS_never, rS_pass, rS_brk, rS_cont, rSs_nil, rSs_cons, o_add_i, o_sub_i, o_mul_i, o_fdiv_i, o_mod_i, o_pow_i, o_add_t, o_add_s, o_add_r, c_lt_i, c_le_i, c_gt_i, c_ge_i, i_tup, i_rl, i_ref, s_tup, s_rl, s_ref, r_tup, q_tup, q_rl, q_ref, l_rl, l_ref, t_append, t_extend, t_pop, m_append, m_extend, m_pop, st_ref, it_tup, it_rl, it_ref, rg_1, rg_2, z_2, z_3, dw_nil, dw_cons, b_abs, b_int, b_intb, b_stri, b_lent, b_lenr, b_lenl, b_tuple, b_list, b_all, b_any, b_sum, b_max, b_min, List.getElem?_cons_zero, List.getElem?_cons_succ, List.set_cons_zero, List.set_cons_succ, ex_some, ex_bl, ex_int, Bool.false_eq_true, if_false, if_true, Tgs.len, DL.Tgs.len]
    exact ⟨trivial, _, _, rfl⟩
  · obtain ⟨rfl, d6, d7, rfl⟩ := hj
    exact ⟨ev, h⟩
end
end K43

set_option Elab.async false
set_option linter.all false
set_option maxRecDepth 100000
set_option maxHeartbeats 4000000
/-! K43P: the law's second question: the values. -/
namespace K43
open PySem PySem.Spec PyProof.Rows L2 DL
def extS : Ss := .cons (.ex (.mth .extend (.var 4) (.cons (.lst (.cons (.bin .add (.bin .add (.slc (.var 2) .no (.yes (.var 8))) (.tup (.cons (.var 9) .nil))) (.slc (.var 2) (.yes (.bin .add (.var 8) (.int 1))) .no)) (.cons (.call (Str.ofString "_law_bent") (.cons (.var 0) (.cons (.var 2) .nil))) .nil))) .nil))) .nil
def lapS : Ss := .cons (.asg (.tup (.cons (.name 8) (.cons (.name 9) .nil))) (.ife (.cmp .ne (.var 2) (.tup .nil)) (.tup (.cons (.call (Str.ofString "_law_take") (.cons (.var 0) (.cons (.blt .len (.cons (.var 2) .nil)) .nil))) (.cons (.call (Str.ofString "_law_take") (.cons (.var 0) (.cons (.bin .sub (.var 1) (.int 1)) .nil))) .nil))) (.tup (.cons (.int 0) (.cons (.int 0) .nil))))) extS
def loopS : Ss := .cons (.for_ (.name 5) (.rng (.cons (.int 10) .nil)) lapS) askS
theorem Val.put {p v : Addr} {η : Sto} {d : D} {o : MO} (h : Val p η d) (hd : d ≠ .ref v) : Val p (DL.put η v o) d := by
  cases h with
  | itm _ h => exact .itm _ h
  | tup _ h k => exact .tup _ h k
  | lst a _ h e b c =>
    have : a ≠ v := fun z => hd (by rw [z])
    exact .lst _ _ h (by rw [put_ne this]; exact e) b c
  | dic a h e =>
    have : a ≠ v := fun z => hd (by rw [z])
    exact .dic _ h (by rw [put_ne this]; exact e)
theorem GW.small {m : Nat} {w : List Nat} (g : GW m w) (h9 : m ≤ 9) : w.length ≤ 36 ∧ ∀ a ∈ w, a ≤ 8 := by
  have := tri_le h9
  exact ⟨by rw [g.len]; exact this, fun a ha => by have := g.let_ a ha; omega⟩
section
variable {n : Nat} {η : Sto} {Q : DK}
theorem right_ext {p v : Addr} {m : Nat} {w : List Nat} {vs : List D} {c k : Nat} {t : Int} {E : DEnds} {d3 d5 d6 d7 d10 : Option D} (h9 : m ≤ 9) (g : GW m w) (hk : k ≤ 100) (ht : 0 ≤ t ∧ t ≤ 9) (ev : η v = some (.lst vs)) (hvp : v ≠ p) (hv : ∀ d ∈ vs, Val p η d ∧ d ≠ .ref v) (hl : vs.length ≤ 1000) (hp : Pot η p c) (hc : c ≤ 90000)
    (hE : ∀ vs' η', η' v = some (.lst vs') → (∀ d ∈ vs', Val p η' d ∧ d ≠ .ref v) → vs'.length = vs.length + 2 → Pot η' p (c + 4) → (∀ a o, a ≠ p → a ≠ v → η a = some o → η' a = some o) → E.nx [some (.ref p), some (.int (m : Int)), some (wD w), d3, some (.ref v), d5, d6, d7, some (.int (k : Int)), some (.int t), d10] η') :
    rdSs (CC (n + 6)) GG extS E [some (.ref p), some (.int (m : Int)), some (wD w), d3, some (.ref v), d5, d6, d7, some (.int (k : Int)), some (.int t), d10] η := by
  obtain ⟨hwl, hwa⟩ := g.small h9
  have hi := wL_itm hwa
  simp only [extS, wD_eq, rE_var, rE_int, rE_str, rE_bl, rE_non, rE_glo, rE_bin, rE_neg, rE_cmp, rE_chn, rE_and, rE_or, rE_not, rE_ife, rE_idx, rE_slc, rE_rev, rE_tup, rE_lst, rE_dic, rE_call, rE_callk, rE_isI, rE_blt, rE_rng, rE_mth, rE_lc, rT_and, rT_or, rT_not, rT_cmp, rT_chn, rT_bl, rT_var, rT_call, rT_isI, rT_blt, rA_nil, rA_cons, rA_star, rTs_nil, rTs_one, rO_no, rO_yes, rI_of, rI_rng, rI_enm, rI_ez, rI_zip, rG_name, rG_tup, rG_sub, rGs_nil, rGs_cons, rS_asg, rS_par, rS_ex, rS_ret, rS_retN, rS_ife, rS_for, rS_whl, rS_never, rS_pass, rS_brk, rS_cont, rSs_nil, rSs_cons, o_add_i, o_sub_i, o_mul_i, o_fdiv_i, o_mod_i, o_pow_i, o_add_t, o_add_s, o_add_r, c_lt_i, c_le_i, c_gt_i, c_ge_i, i_tup, i_rl, i_ref, s_tup, s_rl, s_ref, r_tup, q_tup, q_rl, q_ref, l_rl, l_ref, t_append, t_extend, t_pop, m_append, m_extend, m_pop, st_ref, it_tup, it_rl, it_ref, rg_1, rg_2, z_2, z_3, dw_nil, dw_cons, b_abs, b_int, b_intb, b_stri, b_lent, b_lenr, b_lenl, b_tuple, b_list, b_all, b_any, b_sum, b_max, b_min, List.getElem?_cons_zero, List.getElem?_cons_succ, List.set_cons_zero, List.set_cons_succ, ex_some, ex_bl, ex_int, Bool.false_eq_true, if_false, if_true, Tgs.len, DL.Tgs.len]
  have e1 : ((k : Int) + 1) = ((k + 1 : Nat) : Int) := by omega
  rw [e1, cut_to, cut_from]
  refine ⟨⟨_, ev⟩, size_of (by simp), ?_, ?_, law_bent_tup (by omega) hwa hp (by omega) fun d η2 hd hdr hp2 fr2 => ⟨size_of (by simp), fun q hq => ?_⟩⟩
  · rw [List.length_take, wL_len]; exact size_of (by simp; omega)
  · simp only [List.length_append, List.length_take, List.length_drop, List.length_cons, List.length_nil, wL_len]; exact size_of (by omega)
  · have ev2 := fr2 v _ hvp ev
    have nvq : v ≠ q := ne_fresh ev2 hq
    have nqp := hp2.ne hq
    refine ⟨_, _, by rw [put_ne nvq]; exact ev2, put_same, ?_, ?_⟩
    · rw [sizeLine_eq]; simp; omega
    · have hdv : d ≠ .ref v := fun e => by have := hdr v e; rw [this] at ev; cases ev
      have hdq : d ≠ .ref q := fun e => by
        cases hd with
        | itm _ h => rw [e] at h; simp [Itm] at h
        | tup _ h k => cases e
        | lst a _ h e2 b c => cases e; rw [e2] at hq; cases hq
        | dic a h e2 => cases e; rw [e2] at hq; cases hq
      refine hE _ _ put_same ?_ (by simp) ?_ ?_
      · intro x hx
        rcases List.mem_append.mp hx with hx | hx
        · obtain ⟨x1, x2⟩ := hv x hx
          have xq : x ≠ .ref q := fun e => by
            have x3 := x1.fr fr2
            cases x3 with
            | itm _ h => rw [e] at h; simp [Itm] at h
            | tup _ h k => cases e
            | lst a _ h e2 b c => cases e; rw [e2] at hq; cases hq
            | dic a h e2 => cases e; rw [e2] at hq; cases hq
          exact ⟨((x1.fr fr2).put xq).put x2, x2⟩
        · simp only [List.mem_cons, List.not_mem_nil, or_false] at hx
          rcases hx with e | e <;> subst e
          · refine ⟨.tup _ ?_ ?_, fun e => by cases e⟩
            · simp only [List.length_append, List.length_take, List.length_drop, List.length_cons, List.length_nil, wL_len]; omega
            · intro x hx
              rcases List.mem_append.mp hx with hx | hx
              · rcases List.mem_append.mp hx with hx | hx
                · exact hi x (List.mem_of_mem_take hx)
                · rw [List.mem_singleton] at hx; subst hx
                  simp only [Itm, decide_eq_true_eq]; omega
              · exact hi x (List.mem_of_mem_drop hx)
          · exact ⟨(hd.put hdq).put hdv, hdv⟩
      · obtain ⟨o1, o2, o3, eo, r⟩ := hp2
        exact ⟨o1, o2, o3, by rw [put_ne (Ne.symm hvp), put_ne (Ne.symm nqp)]; exact eo, r⟩
      · intro a o ha1 ha2 e
        have e2 := fr2 a o ha1 e
        rw [put_ne ha2, put_ne (ne_fresh e2 hq)]; exact e2
theorem right_loop {p v : Addr} {m : Nat} {w : List Nat} {vs : List D} {c : Nat} {η0 : Sto} {d3 d5 d6 d7 d8 d9 d10 : Option D} (h1 : 1 ≤ m) (h9 : m ≤ 9) (g : GW m w) (ev : η v = some (.lst vs)) (hvp : v ≠ p) (hv : ∀ d ∈ vs, Val p η d ∧ d ≠ .ref v) (hl : vs.length ≤ 8) (hp : Pot η p c) (hc : c ≤ 80000) (fr : Fr p η0 η) (hv0 : η0 v = none)
    (h : ∀ η', Pot η' p (c + 60) → Fr p η0 η' → Q (.bl true) η') :
    rdSs (CC (n + 6)) GG loopS (retE Q) [some (.ref p), some (.int (m : Int)), some (wD w), d3, some (.ref v), d5, d6, d7, d8, d9, d10] η := by
  have e : loopS = .cons (hd loopS) askS := rfl
  rw [e, rSs_cons]
  simp only [hd, loopS, rE_var, rE_int, rE_str, rE_bl, rE_non, rE_glo, rE_bin, rE_neg, rE_cmp, rE_chn, rE_and, rE_or, rE_not, rE_ife, rE_idx, rE_slc, rE_rev, rE_tup, rE_lst, rE_dic, rE_call, rE_callk, rE_isI, rE_blt, rE_rng, rE_mth, rE_lc, rT_and, rT_or, rT_not, rT_cmp, rT_chn, rT_bl, rT_var, rT_call, rT_isI, rT_blt, rA_nil, rA_cons, rA_star, rTs_nil, rTs_one, rO_no, rO_yes, rI_of, rI_rng, rI_enm, rI_ez, rI_zip, rG_name, rG_tup, rG_sub, rGs_nil, rGs_cons, rS_asg, rS_par, rS_ex, rS_ret, rS_retN, rS_ife, rS_for, rS_whl, rS_never, rS_pass, rS_brk, rS_cont, rSs_nil, rSs_cons, o_add_i, o_sub_i, o_mul_i, o_fdiv_i, o_mod_i, o_pow_i, o_add_t, o_add_s, o_add_r, c_lt_i, c_le_i, c_gt_i, c_ge_i, i_tup, i_rl, i_ref, s_tup, s_rl, s_ref, r_tup, q_tup, q_rl, q_ref, l_rl, l_ref, t_append, t_extend, t_pop, m_append, m_extend, m_pop, st_ref, it_tup, it_rl, it_ref, rg_1, rg_2, z_2, z_3, dw_nil, dw_cons, b_abs, b_int, b_intb, b_stri, b_lent, b_lenr, b_lenl, b_tuple, b_list, b_all, b_any, b_sum, b_max, b_min, List.getElem?_cons_zero, List.getElem?_cons_succ, List.set_cons_zero, List.set_cons_succ, ex_some, ex_bl, ex_int, Bool.false_eq_true, if_false, if_true, Tgs.len, DL.Tgs.len]
  refine ⟨⟨by omega, by omega⟩, ?_⟩
  refine for_of (rdC_mono _) (fun i δ η' => ∃ vs d5 d8 d9, η' v = some (.lst vs) ∧ (∀ d ∈ vs, Val p η' d ∧ d ≠ .ref v) ∧ vs.length ≤ 8 + 2 * i ∧ Pot η' p (c + 6 * i) ∧ Fr p η0 η' ∧ δ = [some (.ref p), some (.int (m : Int)), some (wD w), d3, some (.ref v), d5, d6, d7, d8, d9, d10]) (fun i x δ η' hx hj => ?_) (fun δ η' hj => ?_) ?_
  · obtain ⟨vs, d5, d8, d9, ev, hv, hl, hp, fr, rfl⟩ := hj
    have hi : i < 10 := by
      have := (List.getElem?_eq_some_iff.mp hx).1
      simpa [rngD] using this
    refine ⟨trivial, ?_⟩
    simp only [rE_var, rE_int, rE_str, rE_bl, rE_non, rE_glo, rE_bin, rE_neg, rE_cmp, rE_chn, rE_and, rE_or, rE_not, rE_ife, rE_idx, rE_slc, rE_rev, rE_tup, rE_lst, rE_dic, rE_call, rE_callk, rE_isI, rE_blt, rE_rng, rE_mth, rE_lc, rT_and, rT_or, rT_not, rT_cmp, rT_chn, rT_bl, rT_var, rT_call, rT_isI, rT_blt, rA_nil, rA_cons, rA_star, rTs_nil, rTs_one, rO_no, rO_yes, rI_of, rI_rng, rI_enm, rI_ez, rI_zip, rG_name, rG_tup, rG_sub, rGs_nil, rGs_cons, rS_asg, rS_par, rS_ex, rS_ret, rS_retN, rS_ife, rS_for, rS_whl, rS_never, rS_pass, rS_brk, rS_cont, rSs_nil, rSs_cons, o_add_i, o_sub_i, o_mul_i, o_fdiv_i, o_mod_i, o_pow_i, o_add_t, o_add_s, o_add_r, c_lt_i, c_le_i, c_gt_i, c_ge_i, i_tup, i_rl, i_ref, s_tup, s_rl, s_ref, r_tup, q_tup, q_rl, q_ref, l_rl, l_ref, t_append, t_extend, t_pop, m_append, m_extend, m_pop, st_ref, it_tup, it_rl, it_ref, rg_1, rg_2, z_2, z_3, dw_nil, dw_cons, b_abs, b_int, b_intb, b_stri, b_lent, b_lenr, b_lenl, b_tuple, b_list, b_all, b_any, b_sum, b_max, b_min, List.getElem?_cons_zero, List.getElem?_cons_succ, List.set_cons_zero, List.set_cons_succ, ex_some, ex_bl, ex_int, Bool.false_eq_true, if_false, if_true, Tgs.len, DL.Tgs.len]
    have e : lapS = .cons (hd lapS) extS := rfl
    rw [e, rSs_cons]
    simp only [hd, lapS, wD_eq, rE_var, rE_int, rE_str, rE_bl, rE_non, rE_glo, rE_bin, rE_neg, rE_cmp, rE_chn, rE_and, rE_or, rE_not, rE_ife, rE_idx, rE_slc, rE_rev, rE_tup, rE_lst, rE_dic, rE_call, rE_callk, rE_isI, rE_blt, rE_rng, rE_mth, rE_lc, rT_and, rT_or, rT_not, rT_cmp, rT_chn, rT_bl, rT_var, rT_call, rT_isI, rT_blt, rA_nil, rA_cons, rA_star, rTs_nil, rTs_one, rO_no, rO_yes, rI_of, rI_rng, rI_enm, rI_ez, rI_zip, rG_name, rG_tup, rG_sub, rGs_nil, rGs_cons, rS_asg, rS_par, rS_ex, rS_ret, rS_retN, rS_ife, rS_for, rS_whl, rS_never, rS_pass, rS_brk, rS_cont, rSs_nil, rSs_cons, o_add_i, o_sub_i, o_mul_i, o_fdiv_i, o_mod_i, o_pow_i, o_add_t, o_add_s, o_add_r, c_lt_i, c_le_i, c_gt_i, c_ge_i, i_tup, i_rl, i_ref, s_tup, s_rl, s_ref, r_tup, q_tup, q_rl, q_ref, l_rl, l_ref, t_append, t_extend, t_pop, m_append, m_extend, m_pop, st_ref, it_tup, it_rl, it_ref, rg_1, rg_2, z_2, z_3, dw_nil, dw_cons, b_abs, b_int, b_intb, b_stri, b_lent, b_lenr, b_lenl, b_tuple, b_list, b_all, b_any, b_sum, b_max, b_min, List.getElem?_cons_zero, List.getElem?_cons_succ, List.set_cons_zero, List.set_cons_succ, ex_some, ex_bl, ex_int, Bool.false_eq_true, if_false, if_true, Tgs.len, DL.Tgs.len]
    refine ⟨size_of (by simp), ?_⟩
    rw [wL_int]
    refine cne_tI (m := []) ?_
    rw [← wL_int]
    by_cases hw0 : w = []
    · have d0 : decide ((w.map fun (a : Nat) => (a : Int)) = []) = true := by subst hw0; rfl
      simp only [d0, Bool.not_true, rE_var, rE_int, rE_str, rE_bl, rE_non, rE_glo, rE_bin, rE_neg, rE_cmp, rE_chn, rE_and, rE_or, rE_not, rE_ife, rE_idx, rE_slc, rE_rev, rE_tup, rE_lst, rE_dic, rE_call, rE_callk, rE_isI, rE_blt, rE_rng, rE_mth, rE_lc, rT_and, rT_or, rT_not, rT_cmp, rT_chn, rT_bl, rT_var, rT_call, rT_isI, rT_blt, rA_nil, rA_cons, rA_star, rTs_nil, rTs_one, rO_no, rO_yes, rI_of, rI_rng, rI_enm, rI_ez, rI_zip, rG_name, rG_tup, rG_sub, rGs_nil, rGs_cons, rS_asg, rS_par, rS_ex, rS_ret, rS_retN, rS_ife, rS_for, rS_whl, rS_never, rS_pass, rS_brk, rS_cont, rSs_nil, rSs_cons, o_add_i, o_sub_i, o_mul_i, o_fdiv_i, o_mod_i, o_pow_i, o_add_t, o_add_s, o_add_r, c_lt_i, c_le_i, c_gt_i, c_ge_i, i_tup, i_rl, i_ref, s_tup, s_rl, s_ref, r_tup, q_tup, q_rl, q_ref, l_rl, l_ref, t_append, t_extend, t_pop, m_append, m_extend, m_pop, st_ref, it_tup, it_rl, it_ref, rg_1, rg_2, z_2, z_3, dw_nil, dw_cons, b_abs, b_int, b_intb, b_stri, b_lent, b_lenr, b_lenl, b_tuple, b_list, b_all, b_any, b_sum, b_max, b_min, List.getElem?_cons_zero, List.getElem?_cons_succ, List.set_cons_zero, List.set_cons_succ, ex_some, ex_bl, ex_int, Bool.false_eq_true, if_false, if_true, Tgs.len, DL.Tgs.len]
      refine ⟨size_of (by simp), _, rfl, rfl, _, _, rfl, _, _, rfl, rfl, ?_⟩
      refine right_ext (k := 0) h9 g (by omega) (by omega) ev hvp hv (by omega) hp (by omega) fun vs' η2 k1 k2 k3 k4 k5 => ⟨vs', _, _, _, k1, k2, by omega, k4.mono (by omega), fun a o ha e => k5 a o ha (ne_fresh e hv0) (fr a o ha e), rfl⟩
    · have d0 : decide ((w.map fun (a : Nat) => (a : Int)) = []) = false := by
        rw [decide_eq_false_iff_not, List.map_eq_nil_iff]; exact hw0
      have hpos : 0 < w.length := List.length_pos_iff.mpr hw0
      obtain ⟨hwl, hwa⟩ := g.small h9
      have hm2 : 2 ≤ m := by
        obtain ⟨a, ha⟩ := List.exists_mem_of_ne_nil w hw0
        have := g.let_ a ha
        omega
      simp only [d0, Bool.not_false, rE_var, rE_int, rE_str, rE_bl, rE_non, rE_glo, rE_bin, rE_neg, rE_cmp, rE_chn, rE_and, rE_or, rE_not, rE_ife, rE_idx, rE_slc, rE_rev, rE_tup, rE_lst, rE_dic, rE_call, rE_callk, rE_isI, rE_blt, rE_rng, rE_mth, rE_lc, rT_and, rT_or, rT_not, rT_cmp, rT_chn, rT_bl, rT_var, rT_call, rT_isI, rT_blt, rA_nil, rA_cons, rA_star, rTs_nil, rTs_one, rO_no, rO_yes, rI_of, rI_rng, rI_enm, rI_ez, rI_zip, rG_name, rG_tup, rG_sub, rGs_nil, rGs_cons, rS_asg, rS_par, rS_ex, rS_ret, rS_retN, rS_ife, rS_for, rS_whl, rS_never, rS_pass, rS_brk, rS_cont, rSs_nil, rSs_cons, o_add_i, o_sub_i, o_mul_i, o_fdiv_i, o_mod_i, o_pow_i, o_add_t, o_add_s, o_add_r, c_lt_i, c_le_i, c_gt_i, c_ge_i, i_tup, i_rl, i_ref, s_tup, s_rl, s_ref, r_tup, q_tup, q_rl, q_ref, l_rl, l_ref, t_append, t_extend, t_pop, m_append, m_extend, m_pop, st_ref, it_tup, it_rl, it_ref, rg_1, rg_2, z_2, z_3, dw_nil, dw_cons, b_abs, b_int, b_intb, b_stri, b_lent, b_lenr, b_lenl, b_tuple, b_list, b_all, b_any, b_sum, b_max, b_min, List.getElem?_cons_zero, List.getElem?_cons_succ, List.set_cons_zero, List.set_cons_succ, ex_some, ex_bl, ex_int, Bool.false_eq_true, if_false, if_true, Tgs.len, DL.Tgs.len]
      refine ⟨_, rfl, _, Sub.refl _, law_take hp (by rw [wL_len]; omega) (by rw [wL_len]; omega) (by omega) fun r η1 r0 r1 hp1 fr1 => ?_⟩
      rw [wL_len] at r1
      obtain ⟨k, rfl⟩ : ∃ k : Nat, r = (k : Int) := ⟨r.toNat, by omega⟩
      refine law_take hp1 (by omega) (by omega) (by omega) fun t η2 t0 t1 hp2 fr2 => ?_
      refine ⟨size_of (by simp), _, rfl, rfl, _, _, rfl, _, _, rfl, rfl, ?_⟩
      have fr3 := fr1.trans fr2
      refine right_ext (k := k) h9 g (by omega) (by omega) (fr3 v _ hvp ev) hvp (fun d hd => ⟨(hv d hd).1.fr fr3, (hv d hd).2⟩) (by omega) hp2 (by omega) fun vs' η4 k1 k2 k3 k4 k5 => ⟨vs', _, _, _, k1, k2, by omega, k4.mono (by omega), fun a o ha e => k5 a o ha (ne_fresh e hv0) (fr3 a o ha (fr a o ha e)), rfl⟩
  · obtain ⟨vs, d5, d8, d9, ev, hv, hl, hp, fr, rfl⟩ := hj
    refine ⟨trivial, right_ask h1 h9 ev (fun d hd => (hv d hd).1) (ret_of (h η' ?_ fr))⟩
    have : (rngD 0 10).length = 10 := rfl
    rw [this] at hp
    exact hp
  · exact ⟨vs, _, _, _, ev, hv, by omega, hp.mono (by omega), fr, rfl⟩
end
end K43

set_option Elab.async false
set_option linter.all false
set_option maxRecDepth 100000
set_option maxHeartbeats 4000000
/-! K43Q: the law's second question, whole. -/
namespace K43
open PySem PySem.Spec PyProof.Rows L2 DL
def valS : Ss := .cons (.asg (.name 4) (.lst (.cons (.var 2) (.cons (.rev (.var 2)) (.cons (.blt .list (.cons (.var 2) .nil)) (.cons (.slc (.var 2) (.yes (.int 1)) .no) (.cons (.bin .add (.var 2) (.slc (.var 2) .no (.yes (.int 1)))) (.cons (.blt .tuple (.cons (.lc (.bin .sub (.bin .sub (.var 1) (.int 2)) (.var 8)) (.name 8) (.of (.var 2)) .nil [8]) .nil)) (.cons .non (.cons (.tup .nil) .nil)))))))))) loopS
def flipD (m : Nat) : D → Option D
  | .int i => some (.int ((m : Int) - 2 - i))
  | _ => none
theorem flip_itm {m : Nat} {w : List Nat} (g : GW m w) (h9 : m ≤ 9) : ∀ x ∈ (wL w).filterMap (flipD m), Itm x = true := by
  intro x hx
  obtain ⟨y, hy, e⟩ := List.mem_filterMap.mp hx
  obtain ⟨a, ha, rfl⟩ := List.mem_map.mp hy
  have := g.let_ a ha
  cases e
  simp only [Itm, decide_eq_true_eq]
  omega
theorem rowsF_perm (w : List Nat) : ∀ (r0 r : List Int), r ∈ rowsF r0 w → r.Perm r0 := by
  induction w with
  | nil =>
    intro r0 r h
    rw [rowsF, List.mem_singleton] at h
    exact h ▸ .refl _
  | cons a w ih =>
    intro r0 r h
    rcases List.mem_cons.mp h with e | e
    · exact e ▸ .refl _
    · exact (ih _ _ e).trans (ex_perm r0 a)
theorem rows_small {m : Nat} {w : List Nat} (h9 : m ≤ 9) : ∀ l ∈ rowsF (rg m) w, l.length ≤ 90 ∧ ∀ i ∈ l, -150 ≤ i ∧ i ≤ 150 := by
  intro l hl
  have p := rowsF_perm w _ _ hl
  refine ⟨by rw [p.length_eq, rg_len]; omega, fun i hi => ?_⟩
  have := p.mem_iff.mp hi
  unfold rg at this
  obtain ⟨k, hk, rfl⟩ := List.mem_map.mp this
  have := List.mem_range.mp hk
  omega
theorem cin_W {η : Sto} {w : List Nat} {L : List (List Nat)} {Q : Bool → Sto → Prop} (h : w ∈ L) (hQ : Q true η) : cmpD .inn (wD w) (.tup (L.map wD)) η Q := by
  refine ⟨L.map wD, pI (toI w), L.map fun v => pI (toI v), rfl, by rw [wD_tI]; exact pd_tI _, Pds_map fun v _ => by rw [wD_tI]; exact pd_tI _, shaped_pI _, fun q hq => ?_, ?_⟩
  · obtain ⟨v, _, rfl⟩ := List.mem_map.mp hq
    exact shaped_pI _
  · have : (L.map fun v => pI (toI v)).any (fun q => PyData.eqv q (pI (toI w))) = true := by
      rw [List.any_eq_true]
      exact ⟨pI (toI w), List.mem_map.mpr ⟨w, h, rfl⟩, (eqv_pI _ _).mpr rfl⟩
    rw [this]; exact hQ
theorem steps_small {m : Nat} {w : List Nat} (h9 : m ≤ 9) (g : GW m w) : (srt (stepsA w ++ stepsB w)).length ≤ 2000 ∧ ∀ l ∈ srt (stepsA w ++ stepsB w), l.length ≤ 90 ∧ ∀ i ∈ l, i ≤ 100 := by
  refine ⟨?_, fun l hl => ?_⟩
  · rw [srt_len, List.length_append]
    have h1 : (stepsA w).length ≤ w.length := by unfold stepsA; have := fm_len (apS w) (List.range (w.length - 1)); rw [List.length_range] at this; omega
    have h2 : (stepsB w).length ≤ w.length := by unfold stepsB; have := fm_len (brS w) (List.range (w.length - 2)); rw [List.length_range] at this; omega
    have := (g.small h9).1
    omega
  · obtain ⟨k1, k2⟩ := (g.step (srt_mem.mp hl)).small h9
    exact ⟨by omega, fun i hi => by have := k2 i hi; omega⟩
section
variable {n : Nat} {η : Sto} {Q : DK}
theorem right_vals {p : Addr} {m : Nat} {w : List Nat} {c : Nat} {d3 d4 d5 d6 d7 d8 d9 d10 : Option D} (h1 : 1 ≤ m) (h9 : m ≤ 9) (g : GW m w) (hp : Pot η p c) (hc : c ≤ 80000)
    (h : ∀ η', Pot η' p (c + 60) → Fr p η η' → Q (.bl true) η') :
    rdSs (CC (n + 6)) GG valS (retE Q) [some (.ref p), some (.int (m : Int)), some (wD w), d3, d4, d5, d6, d7, d8, d9, d10] η := by
  obtain ⟨hwl, hwa⟩ := g.small h9
  have hi := wL_itm hwa
  have hwL := wL_len w
  have e : valS = .cons (hd valS) loopS := rfl
  rw [e, rSs_cons]
  generalize hT : loopS = T
  simp only [hd, valS, wD_eq, rE_var, rE_int, rE_str, rE_bl, rE_non, rE_glo, rE_bin, rE_neg, rE_cmp, rE_chn, rE_and, rE_or, rE_not, rE_ife, rE_idx, rE_slc, rE_rev, rE_tup, rE_lst, rE_dic, rE_call, rE_callk, rE_isI, rE_blt, rE_rng, rE_mth, rE_lc, rT_and, rT_or, rT_not, rT_cmp, rT_chn, rT_bl, rT_var, rT_call, rT_isI, rT_blt, rA_nil, rA_cons, rA_star, rTs_nil, rTs_one, rO_no, rO_yes, rI_of, rI_rng, rI_enm, rI_ez, rI_zip, rG_name, rG_tup, rG_sub, rGs_nil, rGs_cons, rS_asg, rS_par, rS_ex, rS_ret, rS_retN, rS_ife, rS_for, rS_whl, rS_never, rS_pass, rS_brk, rS_cont, rSs_nil, rSs_cons, o_add_i, o_sub_i, o_mul_i, o_fdiv_i, o_mod_i, o_pow_i, o_add_t, o_add_s, o_add_r, c_lt_i, c_le_i, c_gt_i, c_ge_i, i_tup, i_rl, i_ref, s_tup, s_rl, s_ref, r_tup, q_tup, q_rl, q_ref, l_rl, l_ref, t_append, t_extend, t_pop, m_append, m_extend, m_pop, st_ref, it_tup, it_rl, it_ref, rg_1, rg_2, z_2, z_3, dw_nil, dw_cons, b_abs, b_int, b_intb, b_stri, b_lent, b_lenr, b_lenl, b_tuple, b_list, b_all, b_any, b_sum, b_max, b_min, List.getElem?_cons_zero, List.getElem?_cons_succ, List.set_cons_zero, List.set_cons_succ, ex_some, ex_bl, ex_int, Bool.false_eq_true, if_false, if_true, Tgs.len, DL.Tgs.len]
  refine ⟨_, rfl, fun a ha => ⟨_, Sub.refl _, ?_, fun q hq => ?_⟩⟩
  · have : cut (wL w) none (some 1) = (wL w).take 1 := cut_to _ 1
    rw [this, List.length_take, hwL]; exact size_of (by omega)
  · have naq : a ≠ q := ne_fresh put_same hq
    have hap := hp.ne ha
    have hp1 := hp.new (o := .lst (wL w)) ha
    have hqp := hp1.ne hq
    refine lc_of (rdC_mono _) (put η a (.lst (wL w))) (flipD m) (fun acc => trivial) (fun x hx acc => ?_) (by rw [hwL]; exact size_of (by omega)) ?_
    · obtain ⟨z, hz, rfl⟩ := List.mem_map.mp hx
      simp only [rE_var, rE_int, rE_str, rE_bl, rE_non, rE_glo, rE_bin, rE_neg, rE_cmp, rE_chn, rE_and, rE_or, rE_not, rE_ife, rE_idx, rE_slc, rE_rev, rE_tup, rE_lst, rE_dic, rE_call, rE_callk, rE_isI, rE_blt, rE_rng, rE_mth, rE_lc, rT_and, rT_or, rT_not, rT_cmp, rT_chn, rT_bl, rT_var, rT_call, rT_isI, rT_blt, rA_nil, rA_cons, rA_star, rTs_nil, rTs_one, rO_no, rO_yes, rI_of, rI_rng, rI_enm, rI_ez, rI_zip, rG_name, rG_tup, rG_sub, rGs_nil, rGs_cons, rS_asg, rS_par, rS_ex, rS_ret, rS_retN, rS_ife, rS_for, rS_whl, rS_never, rS_pass, rS_brk, rS_cont, rSs_nil, rSs_cons, o_add_i, o_sub_i, o_mul_i, o_fdiv_i, o_mod_i, o_pow_i, o_add_t, o_add_s, o_add_r, c_lt_i, c_le_i, c_gt_i, c_ge_i, i_tup, i_rl, i_ref, s_tup, s_rl, s_ref, r_tup, q_tup, q_rl, q_ref, l_rl, l_ref, t_append, t_extend, t_pop, m_append, m_extend, m_pop, st_ref, it_tup, it_rl, it_ref, rg_1, rg_2, z_2, z_3, dw_nil, dw_cons, b_abs, b_int, b_intb, b_stri, b_lent, b_lenr, b_lenl, b_tuple, b_list, b_all, b_any, b_sum, b_max, b_min, List.getElem?_cons_zero, List.getElem?_cons_succ, List.set_cons_zero, List.set_cons_succ, ex_some, ex_bl, ex_int, Bool.false_eq_true, if_false, if_true, Tgs.len, DL.Tgs.len]
      exact ⟨trivial, trivial, .inr ⟨trivial, rfl, trivial⟩⟩
    · refine ⟨_, put_same, _, Sub.refl _, size_of (by simp), size_of (by simp), fun v hv => ?_⟩
      have nav : a ≠ v := ne_fresh (by rw [put_ne naq]; exact put_same) hv
      have hp2 := hp1.new (o := .lst ((wL w).filterMap (flipD m))) hq
      have hvp := hp2.ne hv
      have hv0 : η v = none := fresh_sub (Sub.ofput (fresh_sub (sub_new ha) hq) (sub_new ha)) hv
      rw [← hT]
      refine right_loop (η0 := η) h1 h9 g put_same hvp ?_ (by simp) (hp2.new hv) hc ((Fr.new ha).trans ((Fr.new hq).trans (Fr.new hv))) hv0 h
      have c1 : cut (wL w) (some 1) none = (wL w).drop 1 := cut_from _ 1
      have c2 : cut (wL w) none (some 1) = (wL w).take 1 := cut_to _ 1
      intro d hd
      rw [c1, c2] at hd
      simp only [List.mem_cons, List.not_mem_nil, or_false] at hd
      rcases hd with e | e | e | e | e | e | e | e <;> subst e
      · exact ⟨.tup _ (by rw [hwL]; omega) hi, fun e => by cases e⟩
      · exact ⟨.tup _ (by rw [List.length_reverse, hwL]; omega) fun x hx => hi x (List.mem_reverse.mp hx), fun e => by cases e⟩
      · exact ⟨.lst a (wL w) hap (by rw [put_ne nav, put_ne naq, put_same]) (by rw [hwL]; omega) hi, fun e => nav (by cases e; rfl)⟩
      · exact ⟨.tup _ (by rw [List.length_drop, hwL]; omega) fun x hx => hi x (List.mem_of_mem_drop hx), fun e => by cases e⟩
      · refine ⟨.tup _ (by rw [List.length_append, List.length_take, hwL]; omega) fun x hx => ?_, fun e => by cases e⟩
        rcases List.mem_append.mp hx with hx | hx
        · exact hi x hx
        · exact hi x (List.mem_of_mem_take hx)
      · refine ⟨.tup _ ?_ (flip_itm g h9), fun e => by cases e⟩
        have := List.length_filterMap_le (flipD m) (wL w)
        omega
      · exact ⟨.itm _ rfl, fun e => by cases e⟩
      · exact ⟨.tup [] (by simp) (by simp), fun e => by cases e⟩
theorem law_right1 {p : Addr} {c : Nat} (hp : Pot η p c) (hc : c ≤ 70000) (h : ∀ η', Pot η' p (c + 200) → Fr p η η' → Q (.bl true) η') : CC (n + 7) (S "_law_right") [.ref p] η Q := by
  refine u__law_right ?_
  have e : o__law_right = .cons (hd o__law_right) (.cons (hd (tl o__law_right)) (.cons (hd (tl (tl o__law_right))) (.cons (hd (tl (tl (tl o__law_right)))) (.cons (hd (tl (tl (tl (tl o__law_right))))) valS)))) := rfl
  rw [e]
  generalize hT : valS = T
  simp only [hd, tl, o__law_right, rE_var, rE_int, rE_str, rE_bl, rE_non, rE_glo, rE_bin, rE_neg, rE_cmp, rE_chn, rE_and, rE_or, rE_not, rE_ife, rE_idx, rE_slc, rE_rev, rE_tup, rE_lst, rE_dic, rE_call, rE_callk, rE_isI, rE_blt, rE_rng, rE_mth, rE_lc, rT_and, rT_or, rT_not, rT_cmp, rT_chn, rT_bl, rT_var, rT_call, rT_isI, rT_blt, rA_nil, rA_cons, rA_star, rTs_nil, rTs_one, rO_no, rO_yes, rI_of, rI_rng, rI_enm, rI_ez, rI_zip, rG_name, rG_tup, rG_sub, rGs_nil, rGs_cons, rS_asg, rS_par, rS_ex, rS_ret, rS_retN, rS_ife, rS_for, rS_whl, rS_never, rS_pass, rS_brk, rS_cont, rSs_nil, rSs_cons, o_add_i, o_sub_i, o_mul_i, o_fdiv_i, o_mod_i, o_pow_i, o_add_t, o_add_s, o_add_r, c_lt_i, c_le_i, c_gt_i, c_ge_i, i_tup, i_rl, i_ref, s_tup, s_rl, s_ref, r_tup, q_tup, q_rl, q_ref, l_rl, l_ref, t_append, t_extend, t_pop, m_append, m_extend, m_pop, st_ref, it_tup, it_rl, it_ref, rg_1, rg_2, z_2, z_3, dw_nil, dw_cons, b_abs, b_int, b_intb, b_stri, b_lent, b_lenr, b_lenl, b_tuple, b_list, b_all, b_any, b_sum, b_max, b_min, List.getElem?_cons_zero, List.getElem?_cons_succ, List.set_cons_zero, List.set_cons_succ, ex_some, ex_bl, ex_int, Bool.false_eq_true, if_false, if_true, Tgs.len, DL.Tgs.len]
  refine law_take hp (by decide) (by decide) (by omega) fun r η1 r0 r9 hp1 fr1 => ?_
  obtain ⟨m, hm1, hm9, em⟩ : ∃ m : Nat, 1 ≤ m ∧ m ≤ 9 ∧ 1 + r = (m : Int) := ⟨(1 + r).toNat, by omega, by omega, by omega⟩
  simp only [rE_var, rE_int, rE_str, rE_bl, rE_non, rE_glo, rE_bin, rE_neg, rE_cmp, rE_chn, rE_and, rE_or, rE_not, rE_ife, rE_idx, rE_slc, rE_rev, rE_tup, rE_lst, rE_dic, rE_call, rE_callk, rE_isI, rE_blt, rE_rng, rE_mth, rE_lc, rT_and, rT_or, rT_not, rT_cmp, rT_chn, rT_bl, rT_var, rT_call, rT_isI, rT_blt, rA_nil, rA_cons, rA_star, rTs_nil, rTs_one, rO_no, rO_yes, rI_of, rI_rng, rI_enm, rI_ez, rI_zip, rG_name, rG_tup, rG_sub, rGs_nil, rGs_cons, rS_asg, rS_par, rS_ex, rS_ret, rS_retN, rS_ife, rS_for, rS_whl, rS_never, rS_pass, rS_brk, rS_cont, rSs_nil, rSs_cons, o_add_i, o_sub_i, o_mul_i, o_fdiv_i, o_mod_i, o_pow_i, o_add_t, o_add_s, o_add_r, c_lt_i, c_le_i, c_gt_i, c_ge_i, i_tup, i_rl, i_ref, s_tup, s_rl, s_ref, r_tup, q_tup, q_rl, q_ref, l_rl, l_ref, t_append, t_extend, t_pop, m_append, m_extend, m_pop, st_ref, it_tup, it_rl, it_ref, rg_1, rg_2, z_2, z_3, dw_nil, dw_cons, b_abs, b_int, b_intb, b_stri, b_lent, b_lenr, b_lenl, b_tuple, b_list, b_all, b_any, b_sum, b_max, b_min, List.getElem?_cons_zero, List.getElem?_cons_succ, List.set_cons_zero, List.set_cons_succ, ex_some, ex_bl, ex_int, Bool.false_eq_true, if_false, if_true, Tgs.len, DL.Tgs.len]
  rw [em]
  refine law_word hm1 hm9 hp1 (by omega) fun w η2 g hp2 fr2 => ?_
  obtain ⟨hwl, hwa⟩ := g.small hm9
  have rsm := rows_small (w := w) hm9
  have rln : (rowsF (rg m) w).length ≤ 2000 := by rw [rowsF_len]; omega
  have fr12 := fr1.trans fr2
  refine drawn hm1 hm9 g (repr_tups rln rsm ⟨_, Sub.refl _, law_rows (by omega) g.let_ (by omega) fun q hq => ⟨_, put_same, η2, sub_new hq, repr_tups rln rsm ⟨_, Sub.refl _, cne_s ?_⟩⟩⟩)
  simp only [decide_true, Bool.not_true, rE_var, rE_int, rE_str, rE_bl, rE_non, rE_glo, rE_bin, rE_neg, rE_cmp, rE_chn, rE_and, rE_or, rE_not, rE_ife, rE_idx, rE_slc, rE_rev, rE_tup, rE_lst, rE_dic, rE_call, rE_callk, rE_isI, rE_blt, rE_rng, rE_mth, rE_lc, rT_and, rT_or, rT_not, rT_cmp, rT_chn, rT_bl, rT_var, rT_call, rT_isI, rT_blt, rA_nil, rA_cons, rA_star, rTs_nil, rTs_one, rO_no, rO_yes, rI_of, rI_rng, rI_enm, rI_ez, rI_zip, rG_name, rG_tup, rG_sub, rGs_nil, rGs_cons, rS_asg, rS_par, rS_ex, rS_ret, rS_retN, rS_ife, rS_for, rS_whl, rS_never, rS_pass, rS_brk, rS_cont, rSs_nil, rSs_cons, o_add_i, o_sub_i, o_mul_i, o_fdiv_i, o_mod_i, o_pow_i, o_add_t, o_add_s, o_add_r, c_lt_i, c_le_i, c_gt_i, c_ge_i, i_tup, i_rl, i_ref, s_tup, s_rl, s_ref, r_tup, q_tup, q_rl, q_ref, l_rl, l_ref, t_append, t_extend, t_pop, m_append, m_extend, m_pop, st_ref, it_tup, it_rl, it_ref, rg_1, rg_2, z_2, z_3, dw_nil, dw_cons, b_abs, b_int, b_intb, b_stri, b_lent, b_lenr, b_lenl, b_tuple, b_list, b_all, b_any, b_sum, b_max, b_min, List.getElem?_cons_zero, List.getElem?_cons_succ, List.set_cons_zero, List.set_cons_succ, ex_some, ex_bl, ex_int, Bool.false_eq_true, if_false, if_true, Tgs.len, DL.Tgs.len]
  obtain ⟨sl, ssm⟩ := steps_small hm9 g
  refine next_words hm1 hm9 g (.inr steps_ne) (repr_words sl ssm ⟨_, Sub.refl _, law_steps (by omega) ?_⟩)
  rw [srt_perm (steps_perm w)]
  refine repr_words sl ssm ⟨_, Sub.refl _, cne_s ?_⟩
  simp only [decide_true, Bool.not_true, rE_var, rE_int, rE_str, rE_bl, rE_non, rE_glo, rE_bin, rE_neg, rE_cmp, rE_chn, rE_and, rE_or, rE_not, rE_ife, rE_idx, rE_slc, rE_rev, rE_tup, rE_lst, rE_dic, rE_call, rE_callk, rE_isI, rE_blt, rE_rng, rE_mth, rE_lc, rT_and, rT_or, rT_not, rT_cmp, rT_chn, rT_bl, rT_var, rT_call, rT_isI, rT_blt, rA_nil, rA_cons, rA_star, rTs_nil, rTs_one, rO_no, rO_yes, rI_of, rI_rng, rI_enm, rI_ez, rI_zip, rG_name, rG_tup, rG_sub, rGs_nil, rGs_cons, rS_asg, rS_par, rS_ex, rS_ret, rS_retN, rS_ife, rS_for, rS_whl, rS_never, rS_pass, rS_brk, rS_cont, rSs_nil, rSs_cons, o_add_i, o_sub_i, o_mul_i, o_fdiv_i, o_mod_i, o_pow_i, o_add_t, o_add_s, o_add_r, c_lt_i, c_le_i, c_gt_i, c_ge_i, i_tup, i_rl, i_ref, s_tup, s_rl, s_ref, r_tup, q_tup, q_rl, q_ref, l_rl, l_ref, t_append, t_extend, t_pop, m_append, m_extend, m_pop, st_ref, it_tup, it_rl, it_ref, rg_1, rg_2, z_2, z_3, dw_nil, dw_cons, b_abs, b_int, b_intb, b_stri, b_lent, b_lenr, b_lenl, b_tuple, b_list, b_all, b_any, b_sum, b_max, b_min, List.getElem?_cons_zero, List.getElem?_cons_succ, List.set_cons_zero, List.set_cons_succ, ex_some, ex_bl, ex_int, Bool.false_eq_true, if_false, if_true, Tgs.len, DL.Tgs.len]
  intro q hq
  have ctake : cut ((srt (stepsA w ++ stepsB w)).map wD) none (some 4) = ((srt (stepsA w ++ stepsB w)).take 4).map wD := by
    rw [List.map_take]
    exact cut_to _ 4
  rw [ctake]
  refine lc_of (rdC_mono _) η2 (fun _ => some (.bl true)) (fun acc => trivial) (fun x hx acc => ?_) (by rw [List.length_map, List.length_take]; exact size_of (by omega)) ?_
  · obtain ⟨u, hu, rfl⟩ := List.mem_map.mp hx
    have hu' : u ∈ stepsA w ++ stepsB w := srt_mem.mp (List.mem_of_mem_take hu)
    simp only [rE_var, rE_int, rE_str, rE_bl, rE_non, rE_glo, rE_bin, rE_neg, rE_cmp, rE_chn, rE_and, rE_or, rE_not, rE_ife, rE_idx, rE_slc, rE_rev, rE_tup, rE_lst, rE_dic, rE_call, rE_callk, rE_isI, rE_blt, rE_rng, rE_mth, rE_lc, rT_and, rT_or, rT_not, rT_cmp, rT_chn, rT_bl, rT_var, rT_call, rT_isI, rT_blt, rA_nil, rA_cons, rA_star, rTs_nil, rTs_one, rO_no, rO_yes, rI_of, rI_rng, rI_enm, rI_ez, rI_zip, rG_name, rG_tup, rG_sub, rGs_nil, rGs_cons, rS_asg, rS_par, rS_ex, rS_ret, rS_retN, rS_ife, rS_for, rS_whl, rS_never, rS_pass, rS_brk, rS_cont, rSs_nil, rSs_cons, o_add_i, o_sub_i, o_mul_i, o_fdiv_i, o_mod_i, o_pow_i, o_add_t, o_add_s, o_add_r, c_lt_i, c_le_i, c_gt_i, c_ge_i, i_tup, i_rl, i_ref, s_tup, s_rl, s_ref, r_tup, q_tup, q_rl, q_ref, l_rl, l_ref, t_append, t_extend, t_pop, m_append, m_extend, m_pop, st_ref, it_tup, it_rl, it_ref, rg_1, rg_2, z_2, z_3, dw_nil, dw_cons, b_abs, b_int, b_intb, b_stri, b_lent, b_lenr, b_lenl, b_tuple, b_list, b_all, b_any, b_sum, b_max, b_min, List.getElem?_cons_zero, List.getElem?_cons_succ, List.set_cons_zero, List.set_cons_succ, ex_some, ex_bl, ex_int, Bool.false_eq_true, if_false, if_true, Tgs.len, DL.Tgs.len]
    refine ⟨trivial, trivial, .inr ⟨trivial, next_words hm1 hm9 (g.step hu') (.inr steps_ne) ?_⟩⟩
    exact cin_W (srt_mem.mpr (step_back hu')) ⟨rfl, rfl⟩
  · rw [filterMap_map]
    refine ⟨((srt (stepsA w ++ stepsB w)).take 4).map fun _ => true, ?_, ?_⟩
    · rw [put_same, List.map_map, List.map_map]; rfl
    · have ball : (((srt (stepsA w ++ stepsB w)).take 4).map fun _ => true).all id = true := by
        rw [List.all_eq_true]
        intro b hb
        obtain ⟨_, _, rfl⟩ := List.mem_map.mp hb
        rfl
      rw [ball]
      refine ⟨true, η2, rfl, sub_new hq, ?_⟩
      simp only [Bool.not_true, rE_var, rE_int, rE_str, rE_bl, rE_non, rE_glo, rE_bin, rE_neg, rE_cmp, rE_chn, rE_and, rE_or, rE_not, rE_ife, rE_idx, rE_slc, rE_rev, rE_tup, rE_lst, rE_dic, rE_call, rE_callk, rE_isI, rE_blt, rE_rng, rE_mth, rE_lc, rT_and, rT_or, rT_not, rT_cmp, rT_chn, rT_bl, rT_var, rT_call, rT_isI, rT_blt, rA_nil, rA_cons, rA_star, rTs_nil, rTs_one, rO_no, rO_yes, rI_of, rI_rng, rI_enm, rI_ez, rI_zip, rG_name, rG_tup, rG_sub, rGs_nil, rGs_cons, rS_asg, rS_par, rS_ex, rS_ret, rS_retN, rS_ife, rS_for, rS_whl, rS_never, rS_pass, rS_brk, rS_cont, rSs_nil, rSs_cons, o_add_i, o_sub_i, o_mul_i, o_fdiv_i, o_mod_i, o_pow_i, o_add_t, o_add_s, o_add_r, c_lt_i, c_le_i, c_gt_i, c_ge_i, i_tup, i_rl, i_ref, s_tup, s_rl, s_ref, r_tup, q_tup, q_rl, q_ref, l_rl, l_ref, t_append, t_extend, t_pop, m_append, m_extend, m_pop, st_ref, it_tup, it_rl, it_ref, rg_1, rg_2, z_2, z_3, dw_nil, dw_cons, b_abs, b_int, b_intb, b_stri, b_lent, b_lenr, b_lenl, b_tuple, b_list, b_all, b_any, b_sum, b_max, b_min, List.getElem?_cons_zero, List.getElem?_cons_succ, List.set_cons_zero, List.set_cons_succ, ex_some, ex_bl, ex_int, Bool.false_eq_true, if_false, if_true, Tgs.len, DL.Tgs.len]
      rw [← hT]
      exact right_vals hm1 hm9 g hp2 (by omega) fun η' k1 k2 => h η' (k1.mono (by omega)) (fr12.trans k2)
end
end K43

set_option Elab.async false
set_option linter.all false
set_option maxRecDepth 100000
set_option maxHeartbeats 4000000
/-! K43R: the law. -/
namespace K43
open PySem PySem.Spec PyProof.Rows L2 DL
theorem law_right (ns : List Int) (h : ns.length ≤ 63) : rdSs (CC 20) GG o_law (retE fun v _ => v = .bl true) (dStart f_law [.rl (ns.map .int)]) (fun _ => none) := by
  have es : dStart f_law [.rl (ns.map .int)] = [some (.rl (ns.map .int)), none, none, none] := rfl
  rw [es]
  simp only [o_law, rE_var, rE_int, rE_str, rE_bl, rE_non, rE_glo, rE_bin, rE_neg, rE_cmp, rE_chn, rE_and, rE_or, rE_not, rE_ife, rE_idx, rE_slc, rE_rev, rE_tup, rE_lst, rE_dic, rE_call, rE_callk, rE_isI, rE_blt, rE_rng, rE_mth, rE_lc, rT_and, rT_or, rT_not, rT_cmp, rT_chn, rT_bl, rT_var, rT_call, rT_isI, rT_blt, rA_nil, rA_cons, rA_star, rTs_nil, rTs_one, rO_no, rO_yes, rI_of, rI_rng, rI_enm, rI_ez, rI_zip, rG_name, rG_tup, rG_sub, rGs_nil, rGs_cons, rS_asg, rS_par, rS_ex, rS_ret, rS_retN, rS_ife, rS_for, rS_whl, rS_never, rS_pass, rS_brk, rS_cont, rSs_nil, rSs_cons, o_add_i, o_sub_i, o_mul_i, o_fdiv_i, o_mod_i, o_pow_i, o_add_t, o_add_s, o_add_r, c_lt_i, c_le_i, c_gt_i, c_ge_i, i_tup, i_rl, i_ref, s_tup, s_rl, s_ref, r_tup, q_tup, q_rl, q_ref, l_rl, l_ref, t_append, t_extend, t_pop, m_append, m_extend, m_pop, st_ref, it_tup, it_rl, it_ref, rg_1, rg_2, z_2, z_3, dw_nil, dw_cons, b_abs, b_int, b_intb, b_stri, b_lent, b_lenr, b_lenl, b_tuple, b_list, b_all, b_any, b_sum, b_max, b_min, List.getElem?_cons_zero, List.getElem?_cons_succ, List.set_cons_zero, List.set_cons_succ, ex_some, ex_bl, ex_int, Bool.false_eq_true, if_false, if_true, Tgs.len, DL.Tgs.len]
  refine law_cells (by rw [List.length_map]; omega) (by decide) (by decide) fun q k hk hq => ?_
  simp only [rE_var, rE_int, rE_str, rE_bl, rE_non, rE_glo, rE_bin, rE_neg, rE_cmp, rE_chn, rE_and, rE_or, rE_not, rE_ife, rE_idx, rE_slc, rE_rev, rE_tup, rE_lst, rE_dic, rE_call, rE_callk, rE_isI, rE_blt, rE_rng, rE_mth, rE_lc, rT_and, rT_or, rT_not, rT_cmp, rT_chn, rT_bl, rT_var, rT_call, rT_isI, rT_blt, rA_nil, rA_cons, rA_star, rTs_nil, rTs_one, rO_no, rO_yes, rI_of, rI_rng, rI_enm, rI_ez, rI_zip, rG_name, rG_tup, rG_sub, rGs_nil, rGs_cons, rS_asg, rS_par, rS_ex, rS_ret, rS_retN, rS_ife, rS_for, rS_whl, rS_never, rS_pass, rS_brk, rS_cont, rSs_nil, rSs_cons, o_add_i, o_sub_i, o_mul_i, o_fdiv_i, o_mod_i, o_pow_i, o_add_t, o_add_s, o_add_r, c_lt_i, c_le_i, c_gt_i, c_ge_i, i_tup, i_rl, i_ref, s_tup, s_rl, s_ref, r_tup, q_tup, q_rl, q_ref, l_rl, l_ref, t_append, t_extend, t_pop, m_append, m_extend, m_pop, st_ref, it_tup, it_rl, it_ref, rg_1, rg_2, z_2, z_3, dw_nil, dw_cons, b_abs, b_int, b_intb, b_stri, b_lent, b_lenr, b_lenl, b_tuple, b_list, b_all, b_any, b_sum, b_max, b_min, List.getElem?_cons_zero, List.getElem?_cons_succ, List.set_cons_zero, List.set_cons_succ, ex_some, ex_bl, ex_int, Bool.false_eq_true, if_false, if_true, Tgs.len, DL.Tgs.len]
  refine ⟨_, put_same, ?_⟩
  refine for_of (rdC_mono _) (fun i δ η' => η' q = some (.lst (rngD 0 (k : Int))) ∧ ∃ d1 d2 d3, δ = [some (.rl (ns.map .int)), d1, d2, d3]) (fun i x δ η' hx hj => ?_) (fun δ η' hj => ?_) ⟨put_same, _, _, _, rfl⟩
  · obtain ⟨eq, d1, d2, d3, rfl⟩ := hj
    refine ⟨eq, ?_⟩
    rw [rgD_rg] at hx
    have hi : i < k := by
      have := (List.getElem?_eq_some_iff.mp hx).1
      rw [List.length_map, rg_len] at this
      exact this
    have ex : x = .int (i : Int) := by
      unfold rg at hx
      rw [List.map_map, List.getElem?_map, List.getElem?_range hi] at hx
      exact (Option.some.inj hx).symm
    subst ex
    simp only [rE_var, rE_int, rE_str, rE_bl, rE_non, rE_glo, rE_bin, rE_neg, rE_cmp, rE_chn, rE_and, rE_or, rE_not, rE_ife, rE_idx, rE_slc, rE_rev, rE_tup, rE_lst, rE_dic, rE_call, rE_callk, rE_isI, rE_blt, rE_rng, rE_mth, rE_lc, rT_and, rT_or, rT_not, rT_cmp, rT_chn, rT_bl, rT_var, rT_call, rT_isI, rT_blt, rA_nil, rA_cons, rA_star, rTs_nil, rTs_one, rO_no, rO_yes, rI_of, rI_rng, rI_enm, rI_ez, rI_zip, rG_name, rG_tup, rG_sub, rGs_nil, rGs_cons, rS_asg, rS_par, rS_ex, rS_ret, rS_retN, rS_ife, rS_for, rS_whl, rS_never, rS_pass, rS_brk, rS_cont, rSs_nil, rSs_cons, o_add_i, o_sub_i, o_mul_i, o_fdiv_i, o_mod_i, o_pow_i, o_add_t, o_add_s, o_add_r, c_lt_i, c_le_i, c_gt_i, c_ge_i, i_tup, i_rl, i_ref, s_tup, s_rl, s_ref, r_tup, q_tup, q_rl, q_ref, l_rl, l_ref, t_append, t_extend, t_pop, m_append, m_extend, m_pop, st_ref, it_tup, it_rl, it_ref, rg_1, rg_2, z_2, z_3, dw_nil, dw_cons, b_abs, b_int, b_intb, b_stri, b_lent, b_lenr, b_lenl, b_tuple, b_list, b_all, b_any, b_sum, b_max, b_min, List.getElem?_cons_zero, List.getElem?_cons_succ, List.set_cons_zero, List.set_cons_succ, ex_some, ex_bl, ex_int, Bool.false_eq_true, if_false, if_true, Tgs.len, DL.Tgs.len]
    refine law_pot (by omega) fun p η1 hp0 hp1 sb1 => ?_
    have nqp : q ≠ p := ne_fresh eq hp0
    refine law_are_all_right hp1 (by decide) fun η2 hp2 fr2 => ⟨_, rfl, ?_⟩
    simp only [Bool.not_true, rE_var, rE_int, rE_str, rE_bl, rE_non, rE_glo, rE_bin, rE_neg, rE_cmp, rE_chn, rE_and, rE_or, rE_not, rE_ife, rE_idx, rE_slc, rE_rev, rE_tup, rE_lst, rE_dic, rE_call, rE_callk, rE_isI, rE_blt, rE_rng, rE_mth, rE_lc, rT_and, rT_or, rT_not, rT_cmp, rT_chn, rT_bl, rT_var, rT_call, rT_isI, rT_blt, rA_nil, rA_cons, rA_star, rTs_nil, rTs_one, rO_no, rO_yes, rI_of, rI_rng, rI_enm, rI_ez, rI_zip, rG_name, rG_tup, rG_sub, rGs_nil, rGs_cons, rS_asg, rS_par, rS_ex, rS_ret, rS_retN, rS_ife, rS_for, rS_whl, rS_never, rS_pass, rS_brk, rS_cont, rSs_nil, rSs_cons, o_add_i, o_sub_i, o_mul_i, o_fdiv_i, o_mod_i, o_pow_i, o_add_t, o_add_s, o_add_r, c_lt_i, c_le_i, c_gt_i, c_ge_i, i_tup, i_rl, i_ref, s_tup, s_rl, s_ref, r_tup, q_tup, q_rl, q_ref, l_rl, l_ref, t_append, t_extend, t_pop, m_append, m_extend, m_pop, st_ref, it_tup, it_rl, it_ref, rg_1, rg_2, z_2, z_3, dw_nil, dw_cons, b_abs, b_int, b_intb, b_stri, b_lent, b_lenr, b_lenl, b_tuple, b_list, b_all, b_any, b_sum, b_max, b_min, List.getElem?_cons_zero, List.getElem?_cons_succ, List.set_cons_zero, List.set_cons_succ, ex_some, ex_bl, ex_int, Bool.false_eq_true, if_false, if_true, Tgs.len, DL.Tgs.len]
    refine ⟨⟨by omega, by omega⟩, fun r hr => ?_⟩
    have eq2 : η2 q = some (.lst (rngD 0 (k : Int))) := fr2 q _ nqp (sb1 q _ eq)
    have nqr : q ≠ r := ne_fresh eq2 hr
    have nrp := hp2.ne hr
    refine lc_inv (rdC_mono _) (fun j η3 => η3 q = some (.lst (rngD 0 (k : Int))) ∧ Pot η3 p (1 + 200 * j) ∧ η3 r = some (.lst (List.replicate j (.bl true)))) (fun j x η3 hx hj => ?_) (fun η3 hj => ?_) ?_
    · obtain ⟨eq3, hp3, er3⟩ := hj
      have hj4 : j < 4 := by
        have := (List.getElem?_eq_some_iff.mp hx).1
        simpa [rngD] using this
      refine ⟨trivial, ?_⟩
      simp only [rE_var, rE_int, rE_str, rE_bl, rE_non, rE_glo, rE_bin, rE_neg, rE_cmp, rE_chn, rE_and, rE_or, rE_not, rE_ife, rE_idx, rE_slc, rE_rev, rE_tup, rE_lst, rE_dic, rE_call, rE_callk, rE_isI, rE_blt, rE_rng, rE_mth, rE_lc, rT_and, rT_or, rT_not, rT_cmp, rT_chn, rT_bl, rT_var, rT_call, rT_isI, rT_blt, rA_nil, rA_cons, rA_star, rTs_nil, rTs_one, rO_no, rO_yes, rI_of, rI_rng, rI_enm, rI_ez, rI_zip, rG_name, rG_tup, rG_sub, rGs_nil, rGs_cons, rS_asg, rS_par, rS_ex, rS_ret, rS_retN, rS_ife, rS_for, rS_whl, rS_never, rS_pass, rS_brk, rS_cont, rSs_nil, rSs_cons, o_add_i, o_sub_i, o_mul_i, o_fdiv_i, o_mod_i, o_pow_i, o_add_t, o_add_s, o_add_r, c_lt_i, c_le_i, c_gt_i, c_ge_i, i_tup, i_rl, i_ref, s_tup, s_rl, s_ref, r_tup, q_tup, q_rl, q_ref, l_rl, l_ref, t_append, t_extend, t_pop, m_append, m_extend, m_pop, st_ref, it_tup, it_rl, it_ref, rg_1, rg_2, z_2, z_3, dw_nil, dw_cons, b_abs, b_int, b_intb, b_stri, b_lent, b_lenr, b_lenl, b_tuple, b_list, b_all, b_any, b_sum, b_max, b_min, List.getElem?_cons_zero, List.getElem?_cons_succ, List.set_cons_zero, List.set_cons_succ, ex_some, ex_bl, ex_int, Bool.false_eq_true, if_false, if_true, Tgs.len, DL.Tgs.len]
      refine law_right1 hp3 (by omega) fun η4 hp4 fr4 => ⟨_, fr4 r _ nrp er3, ?_, ?_, ?_, ?_⟩
      · rw [List.length_replicate, sizeLine_eq]; omega
      · rw [put_ne nqr]; exact fr4 q _ nqp eq3
      · obtain ⟨o1, o2, o3, eo, rr⟩ := hp4
        exact (show Pot _ p (1 + 200 * j + 200) from ⟨o1, o2, o3, by rw [put_ne (Ne.symm nrp)]; exact eo, rr⟩).mono (by omega)
      · rw [put_same, ← List.replicate_succ']
    · obtain ⟨eq3, hp3, er3⟩ := hj
      refine ⟨trivial, ?_⟩
      refine ⟨List.replicate 4 true, ?_, ?_⟩
      · rw [er3]; rfl
      · have ba : (List.replicate 4 true).all id = true := rfl
        rw [ba]
        refine ⟨true, η3, rfl, Sub.refl _, ?_⟩
        simp only [Bool.not_true, rE_var, rE_int, rE_str, rE_bl, rE_non, rE_glo, rE_bin, rE_neg, rE_cmp, rE_chn, rE_and, rE_or, rE_not, rE_ife, rE_idx, rE_slc, rE_rev, rE_tup, rE_lst, rE_dic, rE_call, rE_callk, rE_isI, rE_blt, rE_rng, rE_mth, rE_lc, rT_and, rT_or, rT_not, rT_cmp, rT_chn, rT_bl, rT_var, rT_call, rT_isI, rT_blt, rA_nil, rA_cons, rA_star, rTs_nil, rTs_one, rO_no, rO_yes, rI_of, rI_rng, rI_enm, rI_ez, rI_zip, rG_name, rG_tup, rG_sub, rGs_nil, rGs_cons, rS_asg, rS_par, rS_ex, rS_ret, rS_retN, rS_ife, rS_for, rS_whl, rS_never, rS_pass, rS_brk, rS_cont, rSs_nil, rSs_cons, o_add_i, o_sub_i, o_mul_i, o_fdiv_i, o_mod_i, o_pow_i, o_add_t, o_add_s, o_add_r, c_lt_i, c_le_i, c_gt_i, c_ge_i, i_tup, i_rl, i_ref, s_tup, s_rl, s_ref, r_tup, q_tup, q_rl, q_ref, l_rl, l_ref, t_append, t_extend, t_pop, m_append, m_extend, m_pop, st_ref, it_tup, it_rl, it_ref, rg_1, rg_2, z_2, z_3, dw_nil, dw_cons, b_abs, b_int, b_intb, b_stri, b_lent, b_lenr, b_lenl, b_tuple, b_list, b_all, b_any, b_sum, b_max, b_min, List.getElem?_cons_zero, List.getElem?_cons_succ, List.set_cons_zero, List.set_cons_succ, ex_some, ex_bl, ex_int, Bool.false_eq_true, if_false, if_true, Tgs.len, DL.Tgs.len]
        exact ⟨eq3, _, _, _, rfl⟩
    · refine ⟨by rw [put_ne nqr]; exact eq2, ?_, put_same⟩
      exact (hp2.new hr).mono (by omega)
  · obtain ⟨eq, d1, d2, d3, rfl⟩ := hj
    refine ⟨eq, ?_⟩
    simp only [rE_var, rE_int, rE_str, rE_bl, rE_non, rE_glo, rE_bin, rE_neg, rE_cmp, rE_chn, rE_and, rE_or, rE_not, rE_ife, rE_idx, rE_slc, rE_rev, rE_tup, rE_lst, rE_dic, rE_call, rE_callk, rE_isI, rE_blt, rE_rng, rE_mth, rE_lc, rT_and, rT_or, rT_not, rT_cmp, rT_chn, rT_bl, rT_var, rT_call, rT_isI, rT_blt, rA_nil, rA_cons, rA_star, rTs_nil, rTs_one, rO_no, rO_yes, rI_of, rI_rng, rI_enm, rI_ez, rI_zip, rG_name, rG_tup, rG_sub, rGs_nil, rGs_cons, rS_asg, rS_par, rS_ex, rS_ret, rS_retN, rS_ife, rS_for, rS_whl, rS_never, rS_pass, rS_brk, rS_cont, rSs_nil, rSs_cons, o_add_i, o_sub_i, o_mul_i, o_fdiv_i, o_mod_i, o_pow_i, o_add_t, o_add_s, o_add_r, c_lt_i, c_le_i, c_gt_i, c_ge_i, i_tup, i_rl, i_ref, s_tup, s_rl, s_ref, r_tup, q_tup, q_rl, q_ref, l_rl, l_ref, t_append, t_extend, t_pop, m_append, m_extend, m_pop, st_ref, it_tup, it_rl, it_ref, rg_1, rg_2, z_2, z_3, dw_nil, dw_cons, b_abs, b_int, b_intb, b_stri, b_lent, b_lenr, b_lenl, b_tuple, b_list, b_all, b_any, b_sum, b_max, b_min, List.getElem?_cons_zero, List.getElem?_cons_succ, List.set_cons_zero, List.set_cons_succ, ex_some, ex_bl, ex_int, Bool.false_eq_true, if_false, if_true, Tgs.len, DL.Tgs.len]
    exact ret_of rfl
end K43

set_option Elab.async false
set_option linter.all false
set_option maxRecDepth 100000
set_option maxHeartbeats 0
/-! K43Z: the head, the row. -/
namespace K43
open PySem PySem.Spec PyProof.Rows L2 DL
abbrev R : PySem.W.OpenRow := PySem.W.OpenLaw.row PySem.Challenge.rw_whichside_k43_whole_words_and_steps
abbrev fnH : List He.DefD := fds.map ddOf
abbrev faH : List He.Fa := faOf fds fre con
abbrev hk : PySem.W.Hook := He.hookD 4 faH fnH
def ob (s : PySem.W.SharedT) : He.AlD := He.obsDG 4 faH fnH (HandSHeadRun.getT s)
theorem ob_eq (s : PySem.W.SharedT) : ob s = hk.obs s.abs := He.obsDG_eq (HandSHeadRun.getT_eq s)
def loose : List Str := ["SideError","BadNumber","BadWord","MOST_MANY","MOST_TOLD"].map Str.ofString ++ (fds.map (·.name)).dropLast
theorem run (w : World) : HandSHeadRun.RunEq R (PySem.W.view R.prog [36]) hk ob 4000 loose w := by
  intro os
  kernel_rfl
end K43
open PySem PySem.W PySem.Calls PyProof.Rows
theorem PySem.Challenge.cw_whichside_k43_whole_words_and_steps_holds : PySem.Challenge.rw_whichside_k43_whole_words_and_steps.Holds := by
  w_on; o_law
  refine HandSHeadRun.head_any (r := K43.R) (q := view K43.R.prog [36]) (H := K43.hk) (ob := K43.ob) (M := 4000) (loose := K43.loose) (d := HandSHeadRun.topDef K43.R.prog 36) (kwd := []) K43.ob_eq
    (by kernel_rfl) (fun s => by kernel_rfl) K43.run (by kernel_rfl) (by kernel_rfl) (by kernel_rfl) (by rfl) (by first | assumption | decide +kernel) (by decide +kernel) ⟨rfl, rfl, rfl, rfl, rfl, by decide +kernel⟩ ?hw ?hc
  case hw => w_witness2
  case hc =>
    exact DL.law_walk (l := PySem.Challenge.rw_whichside_k43_whole_words_and_steps) (n := 63) (k := 20) (x := Str.ofString "script") (fds := K43.fds) (fre := K43.fre) (con := K43.con) (dl := K43.f_law) rfl (by decide) (by kernel_rfl) ⟨rfl, by decide, by decide⟩ (by simp [K43.fds]) rfl (by kernel_rfl) K43.told (by decide +kernel)
      (fun _ _ h => h) K43.law_right
