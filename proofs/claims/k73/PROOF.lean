import PyProof.Rows.All
import Wide.All
import OpenK.AllK
import Wide.FinOn
import HandS.ForMost
import HandS.Exc
import HandS.WordsExc
import HandS.Wide
import HandS.Style
import HandS.IsInst
import HandS.SortInts
import HandS.TupAny
import HandS.Deep
import KE.KSortedM
import KE.GoesEnum
import HandS.DictComp
import PySem.Challenge.RW_wholecommits_k73_whole_lots_that_are_eno
section
set_option Elab.async false
set_option linter.all false
set_option maxRecDepth 100000
/-! G: a clean semantics (values with inline tuples, a heap by numbers) over the hand layer: each construct once. -/
namespace G
open PySem L2

/-- a clean value: tuples are plain data, all else that is an object stands at a number -/
inductive CV where
  | non | bl (b : Bool) | int (i : Int) | str (x : Str) | ref (n : Nat) | tup (xs : List CV)
/-- a clean object -/
inductive CO where
  | lst (xs : List CV) | rol (xs : List CV) | dct (kvs : List (Key × CV)) | ins (c : String) (fs : List (String × CV)) | dead
abbrev CH := List CO
inductive Out (α : Type) where
  | ok (a : α) (S : CH) | exc (c : String) (fs : List (String × CV)) (S : CH) | stuck
abbrev M (α : Type) := CH → Out α
def M.ret {α : Type} (a : α) : M α := fun S => .ok a S
def M.stk {α : Type} : M α := fun _ => .stuck
def M.bind {α β : Type} (m : M α) (f : α → M β) : M β := fun S => match m S with
  | .ok a S' => f a S'
  | .exc c fs S' => .exc c fs S'
  | .stuck => .stuck
theorem M.bind_bind {α β γ : Type} (m : M α) (f : α → M β) (g : β → M γ) : (m.bind f).bind g = m.bind fun x => (f x).bind g := by
  funext S
  unfold M.bind
  cases m S <;> rfl
theorem M.ret_bind {α β : Type} (a : α) (f : α → M β) : (M.ret a).bind f = f a := rfl
abbrev Env := List (Option CV)

/-- what is fixed: the written part, the classes by name -/
structure Cl where
  K : PySem.W.Frag
  cls : String → Option Addr

mutual
inductive RV (K : PySem.W.Frag) (ρ : List Addr) (H : Hp) : CV → V → Prop
  | non : RV K ρ H .non .non
  | bl (b : Bool) : RV K ρ H (.bl b) (.bl b)
  | int (i : Int) : RV K ρ H (.int i) (.int i)
  | str (x : Str) : RV K ρ H (.str x) (.str x)
  | ref {n : Nat} {a : Addr} (h : ρ[n]? = some a) : RV K ρ H (.ref n) (.ref a)
  | tup {xs : List CV} {vs : List V} {p : Addr} (h : SqT K H p vs) (t : RVs K ρ H xs vs) : RV K ρ H (.tup xs) (.ref p)
inductive RVs (K : PySem.W.Frag) (ρ : List Addr) (H : Hp) : List CV → List V → Prop
  | nil : RVs K ρ H [] []
  | cons {c : CV} {v : V} {cs : List CV} {vs : List V} (h : RV K ρ H c v) (t : RVs K ρ H cs vs) : RVs K ρ H (c :: cs) (v :: vs)
end

/-- a later state: more objects, the tuples stay -/
def Ext (K : PySem.W.Frag) (ρ : List Addr) (H : Hp) (ρ' : List Addr) (H' : Hp) : Prop := ρ <+: ρ' ∧ ∀ p vs, SqT K H p vs → SqT K H' p vs
theorem Ext.refl {K : PySem.W.Frag} {ρ : List Addr} {H : Hp} : Ext K ρ H ρ H := ⟨List.prefix_refl _, fun _ _ h => h⟩
theorem Ext.trans {K : PySem.W.Frag} {ρ ρ1 ρ2 : List Addr} {H H1 H2 : Hp} (a : Ext K ρ H ρ1 H1) (b : Ext K ρ1 H1 ρ2 H2) : Ext K ρ H ρ2 H2 :=
  ⟨a.1.trans b.1, fun p vs h => b.2 p vs (a.2 p vs h)⟩
theorem pre_get {α : Type} {l l' : List α} (h : l <+: l') {n : Nat} {a : α} (e : l[n]? = some a) : l'[n]? = some a := by
  obtain ⟨r, rfl⟩ := h
  rw [List.getElem?_append_left (List.getElem?_eq_some_iff.mp e).1]
  exact e
mutual
theorem RV.up {K : PySem.W.Frag} {ρ ρ' : List Addr} {H H' : Hp} (x : Ext K ρ H ρ' H') : ∀ {c : CV} {v : V}, RV K ρ H c v → RV K ρ' H' c v
  | _, _, .non => .non
  | _, _, .bl b => .bl b
  | _, _, .int i => .int i
  | _, _, .str z => .str z
  | _, _, .ref h => .ref (pre_get x.1 h)
  | _, _, .tup h t => .tup (x.2 _ _ h) (RVs.up x t)
theorem RVs.up {K : PySem.W.Frag} {ρ ρ' : List Addr} {H H' : Hp} (x : Ext K ρ H ρ' H') : ∀ {c : List CV} {v : List V}, RVs K ρ H c v → RVs K ρ' H' c v
  | _, _, .nil => .nil
  | _, _, .cons h t => .cons (RV.up x h) (RVs.up x t)
end
section
variable {K : PySem.W.Frag} {ρ : List Addr} {H : Hp}
theorem RVs.length : ∀ {cs : List CV} {vs : List V}, RVs K ρ H cs vs → cs.length = vs.length
  | _, _, .nil => rfl
  | _, _, .cons _ t => congrArg (· + 1) t.length
theorem RVs.append : ∀ {cs ds : List CV} {vs ws : List V}, RVs K ρ H cs vs → RVs K ρ H ds ws → RVs K ρ H (cs ++ ds) (vs ++ ws)
  | _, _, _, _, .nil, s => s
  | _, _, _, _, .cons h t, s => .cons h (RVs.append t s)
theorem RVs.get : ∀ {cs : List CV} {vs : List V} {i : Nat} {v : V}, RVs K ρ H cs vs → vs[i]? = some v → ∃ c, cs[i]? = some c ∧ RV K ρ H c v
  | _, _, _, _, .nil, e => by simp at e
  | _, _, 0, _, .cons h _, e => by
    simp at e
    subst e
    exact ⟨_, rfl, h⟩
  | _, _, i + 1, v, .cons _ t, e => by
    obtain ⟨c, h1, h2⟩ := RVs.get (i := i) (v := v) t (by simpa using e)
    exact ⟨c, by simpa using h1, h2⟩
theorem RVs.get' : ∀ {cs : List CV} {vs : List V} {i : Nat} {c : CV}, RVs K ρ H cs vs → cs[i]? = some c → ∃ v, vs[i]? = some v ∧ RV K ρ H c v
  | _, _, _, _, .nil, e => by simp at e
  | _, _, 0, _, .cons h _, e => by
    simp at e
    subst e
    exact ⟨_, rfl, h⟩
  | _, _, i + 1, c, .cons _ t, e => by
    obtain ⟨v, h1, h2⟩ := RVs.get' (i := i) (c := c) t (by simpa using e)
    exact ⟨v, by simpa using h1, h2⟩
theorem RVs.set {c : CV} {v : V} (r : RV K ρ H c v) : ∀ {cs : List CV} {vs : List V} (i : Nat), RVs K ρ H cs vs → RVs K ρ H (cs.set i c) (vs.set i v)
  | _, _, _, .nil => .nil
  | _, _, 0, .cons _ t => .cons r t
  | _, _, i + 1, .cons q t => .cons q (RVs.set r i t)
theorem RVs.take : ∀ {cs : List CV} {vs : List V} (n : Nat), RVs K ρ H cs vs → RVs K ρ H (cs.take n) (vs.take n)
  | _, _, 0, _ => .nil
  | _, _, _ + 1, .nil => .nil
  | _, _, n + 1, .cons r t => .cons r (RVs.take n t)
theorem RVs.drop : ∀ {cs : List CV} {vs : List V} (n : Nat), RVs K ρ H cs vs → RVs K ρ H (cs.drop n) (vs.drop n)
  | _, _, 0, r => r
  | _, _, _ + 1, .nil => .nil
  | _, _, n + 1, .cons _ t => RVs.drop n t
theorem RVs.reverse {cs : List CV} {vs : List V} (h : RVs K ρ H cs vs) : RVs K ρ H cs.reverse vs.reverse := by
  induction cs generalizing vs with
  | nil => cases h; exact .nil
  | cons c cs ih =>
    cases h with
    | cons h t =>
      rw [List.reverse_cons, List.reverse_cons]
      exact (ih t).append (.cons h .nil)
theorem RVs.dropLast : ∀ {cs : List CV} {vs : List V}, RVs K ρ H cs vs → RVs K ρ H cs.dropLast vs.dropLast := fun {cs vs} h => by
  rw [List.dropLast_eq_take, List.dropLast_eq_take, h.length]
  exact h.take _
theorem RVs.eraseIdx : ∀ {cs : List CV} {vs : List V} (i : Nat), RVs K ρ H cs vs → RVs K ρ H (cs.eraseIdx i) (vs.eraseIdx i)
  | _, _, _, .nil => .nil
  | _, _, 0, .cons _ t => t
  | _, _, i + 1, .cons r t => .cons r (RVs.eraseIdx i t)
theorem RVs.ints : ∀ (ns : List Int), RVs K ρ H (ns.map CV.int) (ns.map V.int)
  | [] => .nil
  | n :: r => .cons (.int n) (RVs.ints r)
theorem RVs.ints_inv : ∀ {ns : List Int} {vs : List V}, RVs K ρ H (ns.map CV.int) vs → vs = ns.map V.int
  | [], _, .nil => rfl
  | n :: r, _, .cons h t => by
    cases h
    rw [RVs.ints_inv t]
    rfl
end

/-- the dict of attributes, pairs by position -/
def RF (K : PySem.W.Frag) (ρ : List Addr) (H : Hp) (fs : List (String × CV)) (gs : List (Str × V)) : Prop :=
  gs.map (·.1) = fs.map (fun p => Str.ofString p.1) ∧ RVs K ρ H (fs.map (·.2)) (gs.map (·.2))
def RK (K : PySem.W.Frag) (ρ : List Addr) (H : Hp) (fs : List (Key × CV)) (gs : List (Key × V)) : Prop :=
  gs.map (·.1) = fs.map (·.1) ∧ RVs K ρ H (fs.map (·.2)) (gs.map (·.2))
/-- a list that is only read: locked, or one of the written part -/
def RoL (K : PySem.W.Frag) (H : Hp) (a : Addr) (xs : List V) : Prop :=
  (∃ o, H a = some (.frz o (.lst xs))) ∨
    ∃ (o : Obj) (its : Array Value) (n : Nat), K.lookup a = some o ∧ o.cls = .type "list" ∧ o.dict = none ∧ o.data = .seq its n ∧ its.size ≤ sizeLine ∧ Vals xs its.toList
theorem RoL.seq {K : PySem.W.Frag} {H : Hp} {a : Addr} {xs : List V} (h : RoL K H a xs) : SqL K H a xs := by
  rcases h with ⟨o, h⟩ | h
  · exact .inl (.inr ⟨o, h⟩)
  · exact .inr h
/-- an object -/
def OR (C : Cl) (ρ : List Addr) (H : Hp) : CO → Addr → Prop
  | .lst xs, a => ∃ vs, H a = some (.lst vs) ∧ RVs C.K ρ H xs vs
  | .rol xs, a => ∃ vs, RoL C.K H a vs ∧ RVs C.K ρ H xs vs
  | .dct kvs, a => ∃ gs, H a = some (.dK gs) ∧ RK C.K ρ H kvs gs
  | .ins c fs, a => ∃ Ca dx gs, C.cls c = some Ca ∧ H a = some (.ins Ca dx gs) ∧ RF C.K ρ H fs gs
  | .dead, a => ∃ o, H a = some o
def CO.isRol : CO → Bool
  | .rol _ => true
  | _ => false
structure SR (C : Cl) (ρ : List Addr) (S : CH) (H : Hp) : Prop where
  len : ρ.length = S.length
  nd : ∀ (n m : Nat) (a : Addr) (o o' : CO), ρ[n]? = some a → ρ[m]? = some a → S[n]? = some o → S[m]? = some o' → o.isRol = false → o'.isRol = false → n = m
  ob : ∀ (n : Nat) (a : Addr) (o : CO), ρ[n]? = some a → S[n]? = some o → OR C ρ H o a
section
variable {C : Cl} {ρ ρ' : List Addr} {H H' : Hp} {S S' : CH}
theorem OR.up {o : CO} {a : Addr} (x : Ext C.K ρ H ρ' H') (e : ∀ u, H a = some u → H' a = some u) (h : OR C ρ H o a) : OR C ρ' H' o a := by
  cases o with
  | lst xs => obtain ⟨vs, h1, h2⟩ := h; exact ⟨vs, e _ h1, h2.up x⟩
  | rol xs =>
    obtain ⟨vs, h1, h2⟩ := h
    refine ⟨vs, ?_, h2.up x⟩
    rcases h1 with ⟨o, h1⟩ | h1
    · exact .inl ⟨o, e _ h1⟩
    · exact .inr h1
  | dct kvs => obtain ⟨gs, h1, h2, h3⟩ := h; exact ⟨gs, e _ h1, h2, h3.up x⟩
  | ins c fs => obtain ⟨Ca, dx, gs, h0, h1, h2, h3⟩ := h; exact ⟨Ca, dx, gs, h0, e _ h1, h2, h3.up x⟩
  | dead => obtain ⟨o, h⟩ := h; exact ⟨o, e _ h⟩
theorem OR.there {o : CO} {a : Addr} (h : OR C ρ H o a) (hr : o.isRol = false) : ∃ u, H a = some u := by
  cases o with
  | lst xs => obtain ⟨vs, h1, h2⟩ := h; exact ⟨_, h1⟩
  | rol xs => cases hr
  | dct kvs => obtain ⟨gs, h1, h2⟩ := h; exact ⟨_, h1⟩
  | ins c fs => obtain ⟨Ca, dx, gs, h0, h1, h2⟩ := h; exact ⟨_, h1⟩
  | dead => exact h
theorem SR.addr (h : SR C ρ S H) {n : Nat} {o : CO} (e : S[n]? = some o) : ∃ a, ρ[n]? = some a ∧ OR C ρ H o a := by
  have hn : n < ρ.length := by
    rw [h.len]
    exact (List.getElem?_eq_some_iff.mp e).1
  exact ⟨ρ[n], List.getElem?_eq_getElem hn, h.ob n _ o (List.getElem?_eq_getElem hn) e⟩
theorem SR.cell (h : SR C ρ S H) {n : Nat} {a : Addr} (e : ρ[n]? = some a) : ∃ o, S[n]? = some o ∧ OR C ρ H o a := by
  have hn : n < S.length := by
    rw [← h.len]
    exact (List.getElem?_eq_some_iff.mp e).1
  exact ⟨S[n], List.getElem?_eq_getElem hn, h.ob n a _ e (List.getElem?_eq_getElem hn)⟩
theorem sqT_upd {K : PySem.W.Frag} {p a : Addr} {vs : List V} {u : HO} (h : SqT K H p vs) (hn : ∀ xs, H a ≠ some (.tup xs)) (hf : ∀ o xs, H a ≠ some (.frz o (.tup xs))) : SqT K (upd H a u) p vs := by
  rcases h with (h | ⟨o, h⟩) | h
  · refine .inl (.inl ?_)
    have ne : p ≠ a := by
      rintro rfl
      exact hn vs h
    rw [upd_ne ne]
    exact h
  · refine .inl (.inr ⟨o, ?_⟩)
    have ne : p ≠ a := by
      rintro rfl
      exact hf o vs h
    rw [upd_ne ne]
    exact h
  · exact .inr h
theorem keep_new {p a : Addr} {u : HO} (e : H p = none) : ∀ v, H a = some v → upd H p u a = some v := fun v h => by
  rw [upd_ne (ne_of_none h e)]
  exact h
/-- a new tuple (or anything that is not numbered) -/
theorem SR.laid (h : SR C ρ S H) {p : Addr} {u : HO} (e : H p = none) : SR C ρ S (upd H p u) ∧ Ext C.K ρ H ρ (upd H p u) := by
  have x : Ext C.K ρ H ρ (upd H p u) := ⟨List.prefix_refl _, fun q vs hq => sqT_upd hq (by rw [e]; intro _ z; cases z) (by rw [e]; intro _ _ z; cases z)⟩
  exact ⟨⟨h.len, h.nd, fun n a o h1 h2 => (h.ob n a o h1 h2).up x (keep_new e)⟩, x⟩
/-- a new object -/
theorem SR.push (h : SR C ρ S H) {p : Addr} {u : HO} {o : CO} (e : H p = none) (new : ∀ ρ', Ext C.K ρ H ρ' (upd H p u) → OR C ρ' (upd H p u) o p) :
    SR C (ρ ++ [p]) (S ++ [o]) (upd H p u) ∧ Ext C.K ρ H (ρ ++ [p]) (upd H p u) ∧ (ρ ++ [p])[S.length]? = some p := by
  have x : Ext C.K ρ H (ρ ++ [p]) (upd H p u) := ⟨List.prefix_append _ _, fun q vs hq => sqT_upd hq (by rw [e]; intro _ z; cases z) (by rw [e]; intro _ _ z; cases z)⟩
  have hl : (ρ ++ [p])[S.length]? = some p := by
    rw [← h.len, List.getElem?_append_right (Nat.le_refl _), Nat.sub_self]
    rfl
  have old : ∀ {n : Nat} {a : Addr} {o' : CO}, (ρ ++ [p])[n]? = some a → (S ++ [o])[n]? = some o' → (ρ[n]? = some a ∧ S[n]? = some o') ∨ (n = S.length ∧ a = p ∧ o' = o) := by
    intro n a o' h1 h2
    by_cases hn : n < S.length
    · exact .inl ⟨by rwa [List.getElem?_append_left (by rw [h.len]; exact hn)] at h1, by rwa [List.getElem?_append_left hn] at h2⟩
    · have hn2 : n = S.length := by
        have := (List.getElem?_eq_some_iff.mp h2).1
        simp at this
        omega
      subst hn2
      rw [hl] at h1
      rw [List.getElem?_append_right (Nat.le_refl _), Nat.sub_self] at h2
      exact .inr ⟨rfl, (Option.some.inj h1).symm, (Option.some.inj h2).symm⟩
  refine ⟨⟨by simp [h.len], fun n m a o1 o2 h1 h2 h3 h4 r1 r2 => ?_, fun n a o' h1 h2 => ?_⟩, x, hl⟩
  · rcases old h1 h3 with ⟨a1, b1⟩ | ⟨a1, b1, c1⟩
    · rcases old h2 h4 with ⟨a2, b2⟩ | ⟨a2, b2, c2⟩
      · exact h.nd n m a o1 o2 a1 a2 b1 b2 r1 r2
      · obtain ⟨u, hu⟩ := (h.ob n a o1 a1 b1).there r1
        rw [b2, e] at hu
        cases hu
    · rcases old h2 h4 with ⟨a2, b2⟩ | ⟨a2, b2, c2⟩
      · obtain ⟨u, hu⟩ := (h.ob m a o2 a2 b2).there r2
        rw [b1, e] at hu
        cases hu
      · rw [a1, a2]
  · rcases old h1 h2 with ⟨a1, b1⟩ | ⟨a1, b1, c1⟩
    · exact (h.ob n a o' a1 b1).up x (keep_new e)
    · subst b1
      rw [c1]
      exact new _ x
def isMutO : HO → Bool
  | .lst _ | .dK _ | .ins _ _ _ => true
  | _ => false
/-- an object is changed -/
theorem SR.write (h : SR C ρ S H) {n : Nat} {a : Addr} {u0 u : HO} {o0 o : CO} (hS : S[n]? = some o0) (hr : o0.isRol = false) (hr' : o.isRol = false) (ha : ρ[n]? = some a) (e : H a = some u0) (hm : isMutO u0 = true)
    (new : Ext C.K ρ H ρ (upd H a u) → OR C ρ (upd H a u) o a) :
    SR C ρ (S.set n o) (upd H a u) ∧ Ext C.K ρ H ρ (upd H a u) := by
  have x : Ext C.K ρ H ρ (upd H a u) := ⟨List.prefix_refl _, fun q vs hq => sqT_upd hq (by rw [e]; intro _ z; cases z; cases hm) (by rw [e]; intro _ _ z; cases z; cases hm)⟩
  have old : ∀ {m : Nat} {o' : CO}, (S.set n o)[m]? = some o' → (m = n ∧ o' = o) ∨ (m ≠ n ∧ S[m]? = some o') := by
    intro m o' h2
    by_cases hmn : m = n
    · subst hmn
      rw [List.getElem?_set_self'] at h2
      rw [hS] at h2
      cases h2
      exact .inl ⟨rfl, rfl⟩
    · rw [List.getElem?_set_ne (Ne.symm hmn)] at h2
      exact .inr ⟨hmn, h2⟩
  refine ⟨⟨by simp [h.len], fun m m' b o1 o2 h1 h2 h3 h4 r1 r2 => ?_, fun m b o' h1 h2 => ?_⟩, x⟩
  · rcases old h3 with ⟨a1, b1⟩ | ⟨a1, b1⟩
    · rcases old h4 with ⟨a2, b2⟩ | ⟨a2, b2⟩
      · rw [a1, a2]
      · rw [a1]
        rw [a1] at h1
        exact h.nd n m' b o0 o2 h1 h2 hS b2 hr r2
    · rcases old h4 with ⟨a2, b2⟩ | ⟨a2, b2⟩
      · rw [a2]
        rw [a2] at h2
        exact h.nd m n b o1 o0 h1 h2 b1 hS r1 hr
      · exact h.nd m m' b o1 o2 h1 h2 b1 b2 r1 r2
  · rcases old h2 with ⟨a1, b1⟩ | ⟨a1, b1⟩
    · subst a1 b1
      rw [ha] at h1
      cases h1
      exact new x
    · have q := h.ob m b o' h1 b1
      by_cases hb : b = a
      · subst hb
        cases ro : o'.isRol with
        | false => exact absurd (h.nd m n b o' o0 h1 ha b1 hS ro hr) a1
        | true =>
          cases o' with
          | rol xs =>
            obtain ⟨vs, h3, h4⟩ := q
            refine ⟨vs, ?_, h4.up x⟩
            rcases h3 with ⟨ob, h3⟩ | h3
            · rw [e] at h3
              cases h3
              cases hm
            · exact .inr h3
          | _ => cases ro
      · exact q.up x fun v hv => by
          rw [upd_ne hb]
          exact hv
end

/-! ### slots -/
def RO (K : PySem.W.Frag) (ρ : List Addr) (H : Hp) : Option CV → Option V → Prop
  | some c, some v => RV K ρ H c v
  | some _, none => False
  | none, _ => True
abbrev RE (K : PySem.W.Frag) (ρ : List Addr) (H : Hp) : Env → St → Prop := Paired (RO K ρ H)
theorem RO.up {K : PySem.W.Frag} {ρ ρ' : List Addr} {H H' : Hp} (x : Ext K ρ H ρ' H') {c : Option CV} {v : Option V} (h : RO K ρ H c v) : RO K ρ' H' c v := by
  cases c with
  | none => trivial
  | some c =>
    cases v with
    | none => exact h
    | some v => exact RV.up x h
theorem RE.up {K : PySem.W.Frag} {ρ ρ' : List Addr} {H H' : Hp} (x : Ext K ρ H ρ' H') {c : Env} {v : St} (h : RE K ρ H c v) : RE K ρ' H' c v := Paired.mapP h fun _ _ r => r.up x
theorem RE.get {K : PySem.W.Frag} {ρ : List Addr} {H : Hp} : ∀ {env : Env} {σ : St} {i : Nat} {c : CV}, RE K ρ H env σ → env[i]? = some (some c) → ∃ v, σ[i]? = some (some v) ∧ RV K ρ H c v
  | _, _, _, _, .nil, e => by simp at e
  | _, _, 0, c, .cons (b := b) h _, e => by
    simp at e
    subst e
    cases b with
    | none => exact h.elim
    | some v => exact ⟨v, rfl, h⟩
  | _, _, i + 1, c, .cons _ t, e => by
    obtain ⟨v, h1, h2⟩ := RE.get (i := i) (c := c) t (by simpa using e)
    exact ⟨v, by simpa using h1, h2⟩
theorem RE.set {K : PySem.W.Frag} {ρ : List Addr} {H : Hp} {c : CV} {v : V} (r : RV K ρ H c v) : ∀ {env : Env} {σ : St} (i : Nat), RE K ρ H env σ → RE K ρ H (env.set i (some c)) (σ.set i (some v))
  | _, _, _, .nil => .nil
  | _, _, 0, .cons _ t => .cons (show RO K ρ H (some c) (some v) from r) t
  | _, _, i + 1, .cons q t => .cons q (RE.set r i t)

/-! ### runs -/
def Out.Sat {α : Type} (o : Out α) (P : α → CH → Prop) (X : String → List (String × CV) → CH → Prop) : Prop := match o with
  | .ok a S => P a S
  | .exc c fs S => X c fs S
  | .stuck => False
/-- an exception's own dict -/
def XD (K : PySem.W.Frag) (ρ : List Addr) (H : Hp) (fs : List (String × CV)) : Option Addr → Prop
  | none => fs = []
  | some d => ∃ gs, H d = some (.xd gs) ∧ RF K ρ H fs gs
def XQ (C : Cl) (ρ : List Addr) (H : Hp) (E : XK) (c : String) (fs : List (String × CV)) (S' : CH) : Prop :=
  ∀ (ρ' : List Addr) (H' : Hp) (Ca : Addr) (d : Option Addr), Ext C.K ρ H ρ' H' → SR C ρ' S' H' → C.cls c = some Ca → XD C.K ρ' H' fs d → E (.ref Ca) d H'
/-- the run's end, told of the real values -/
def MR {α β : Type} (C : Cl) (ρ : List Addr) (H : Hp) (R : List Addr → Hp → α → β → Prop) (o : Out α) (Q : β → Hp → Prop) (E : XK) : Prop :=
  o.Sat (fun a S' => ∀ ρ' H' b, Ext C.K ρ H ρ' H' → SR C ρ' S' H' → R ρ' H' a b → Q b H') (XQ C ρ H E)
section
variable {C : Cl} {ρ ρ' : List Addr} {H H' : Hp} {E : XK}
theorem XQ.mono {c : String} {fs : List (String × CV)} {S' : CH} (x : Ext C.K ρ H ρ' H') (h : XQ C ρ H E c fs S') : XQ C ρ' H' E c fs S' :=
  fun ρ2 H2 Ca d x2 s2 hc hd => h ρ2 H2 Ca d (x.trans x2) s2 hc hd
theorem MR.mono {α β : Type} {R : List Addr → Hp → α → β → Prop} {o : Out α} {Q : β → Hp → Prop} (x : Ext C.K ρ H ρ' H') (h : MR C ρ H R o Q E) : MR C ρ' H' R o Q E := by
  cases o with
  | ok a S' => exact fun ρ2 H2 b x2 s2 r => h ρ2 H2 b (x.trans x2) s2 r
  | exc c fs S' => exact XQ.mono x h
  | stuck => exact h
/-- a part that runs first -/
theorem MR.bind {α β γ δ : Type} {R : List Addr → Hp → α → β → Prop} {R' : List Addr → Hp → γ → δ → Prop} {m : M α} {f : α → M γ} {S : CH} {Q : δ → Hp → Prop} {Q' : β → Hp → Prop}
    (h : MR C ρ H R' (m.bind f S) Q E) (k : ∀ a S1 ρ1 H1 b, Ext C.K ρ H ρ1 H1 → SR C ρ1 S1 H1 → R ρ1 H1 a b → MR C ρ1 H1 R' (f a S1) Q E → Q' b H1) : MR C ρ H R (m S) Q' E := by
  unfold M.bind at h
  cases e : m S with
  | ok a S1 =>
    rw [e] at h
    exact fun ρ1 H1 b x1 s1 r1 => k a S1 ρ1 H1 b x1 s1 r1 (h.mono x1)
  | exc c fs S' =>
    rw [e] at h
    exact h
  | stuck =>
    rw [e] at h
    exact h
end
def tM (C : Cl) (m : Env → M CV) (E : XK) : TE := fun σ H Q => ∃ ρ S env, SR C ρ S H ∧ RE C.K ρ H env σ ∧ MR C ρ H (RV C.K) (m env S) Q E
def tMB (C : Cl) (m : Env → M Bool) (E : XK) : TT := fun σ H Q => ∃ ρ S env, SR C ρ S H ∧ RE C.K ρ H env σ ∧ MR C ρ H (fun _ _ a b => a = b) (m env S) Q E
def tMA (C : Cl) (m : Env → M (List CV)) (E : XK) : TA := fun σ H Q => ∃ ρ S env, SR C ρ S H ∧ RE C.K ρ H env σ ∧ MR C ρ H (RVs C.K) (m env S) Q E
def tMO (C : Cl) (m : Env → M (Option Int)) (E : XK) : TO := fun σ H Q => ∃ ρ S env, SR C ρ S H ∧ RE C.K ρ H env σ ∧ MR C ρ H (fun _ _ a b => a = b) (m env S) Q E
inductive Fl where
  | nx (env : Env) | ret (v : CV) | brk (env : Env) | ct (env : Env)
/-- where a statement's run leads -/
def FQ (C : Cl) (ρ : List Addr) (H : Hp) (D : Ends) : Fl → CH → Prop
  | .nx env, S' => ∀ ρ' H' σ', Ext C.K ρ H ρ' H' → SR C ρ' S' H' → RE C.K ρ' H' env σ' → D.nx σ' H'
  | .ret v, S' => ∀ ρ' H' b, Ext C.K ρ H ρ' H' → SR C ρ' S' H' → RV C.K ρ' H' v b → D.rt b H'
  | .brk env, S' => ∀ ρ' H' σ', Ext C.K ρ H ρ' H' → SR C ρ' S' H' → RE C.K ρ' H' env σ' → D.bk σ' H'
  | .ct env, S' => ∀ ρ' H' σ', Ext C.K ρ H ρ' H' → SR C ρ' S' H' → RE C.K ρ' H' env σ' → D.ct σ' H'
def MF (C : Cl) (ρ : List Addr) (H : Hp) (o : Out Fl) (D : Ends) (E : XK) : Prop := o.Sat (FQ C ρ H D) (XQ C ρ H E)
def tMS (C : Cl) (m : Env → M Fl) (E : XK) : TS := fun D σ H => ∃ ρ S env, SR C ρ S H ∧ RE C.K ρ H env σ ∧ MF C ρ H (m env S) D E
section
variable {C : Cl} {ρ ρ' : List Addr} {H H' : Hp} {E : XK}
theorem FQ.mono {D : Ends} {f : Fl} {S' : CH} (x : Ext C.K ρ H ρ' H') (h : FQ C ρ H D f S') : FQ C ρ' H' D f S' := by
  cases f with
  | nx env => exact fun ρ2 H2 b x2 s2 r => h ρ2 H2 b (x.trans x2) s2 r
  | ret v => exact fun ρ2 H2 b x2 s2 r => h ρ2 H2 b (x.trans x2) s2 r
  | brk env => exact fun ρ2 H2 b x2 s2 r => h ρ2 H2 b (x.trans x2) s2 r
  | ct env => exact fun ρ2 H2 b x2 s2 r => h ρ2 H2 b (x.trans x2) s2 r
theorem MF.mono {o : Out Fl} {D : Ends} (x : Ext C.K ρ H ρ' H') (h : MF C ρ H o D E) : MF C ρ' H' o D E := by
  cases o with
  | ok a S' => exact FQ.mono x h
  | exc c fs S' => exact XQ.mono x h
  | stuck => exact h
theorem MF.bind {α β : Type} {R : List Addr → Hp → α → β → Prop} {m : M α} {f : α → M Fl} {S : CH} {D : Ends} {Q' : β → Hp → Prop}
    (h : MF C ρ H (m.bind f S) D E) (k : ∀ a S1 ρ1 H1 b, Ext C.K ρ H ρ1 H1 → SR C ρ1 S1 H1 → R ρ1 H1 a b → MF C ρ1 H1 (f a S1) D E → Q' b H1) : MR C ρ H R (m S) Q' E := by
  unfold M.bind at h
  cases e : m S with
  | ok a S1 =>
    rw [e] at h
    exact fun ρ1 H1 b x1 s1 r1 => k a S1 ρ1 H1 b x1 s1 r1 (h.mono x1)
  | exc c fs S' =>
    rw [e] at h
    exact h
  | stuck =>
    rw [e] at h
    exact h
end
theorem PE_imp {X : Cx} {e : Expr} {t t' : TE} (h : PE X e t) (i : ∀ σ H Q, t' σ H Q → t σ H Q) : PE X e t' := ⟨fun pins s σ H Q I hw => h.run pins s σ H Q I (i _ _ _ hw)⟩
theorem PT_imp {X : Cx} {e : Expr} {t t' : TT} (h : PT X e t) (i : ∀ σ H Q, t' σ H Q → t σ H Q) : PT X e t' := ⟨fun pins s σ H Q I hw => h.run pins s σ H Q I (i _ _ _ hw)⟩
theorem PW_imp {X : Cx} {e : Expr} {t t' : TT} (h : PW X e t) (i : ∀ σ H Q, t' σ H Q → t σ H Q) : PW X e t' := ⟨fun wh pins s σ H Q I hw => h.run wh pins s σ H Q I (i _ _ _ hw)⟩
theorem PA_imp {X : Cx} {e : List Expr} {t t' : TA} (h : PA X e t) (i : ∀ σ H Q, t' σ H Q → t σ H Q) : PA X e t' := ⟨fun pos pins s σ H Q I hw => h.run pos pins s σ H Q I (i _ _ _ hw)⟩
theorem PO_imp {X : Cx} {e : Option Expr} {t t' : TO} (h : PO X e t) (i : ∀ σ H Q, t' σ H Q → t σ H Q) : PO X e t' := ⟨fun pins s σ H Q I hw => h.run pins s σ H Q I (i _ _ _ hw)⟩
theorem PS_imp {X : Cx} {e : Stmt} {t t' : TS} (h : PS X e t) (i : ∀ D σ H, t' D σ H → t D σ H) : PS X e t' := ⟨fun pins s σ H Q I hw => h.run pins s σ H Q I (i _ _ _ hw)⟩
theorem PSs_imp {X : Cx} {e : List Stmt} {t t' : TS} (h : PSs X e t) (i : ∀ D σ H, t' D σ H → t D σ H) : PSs X e t' := ⟨fun pins s σ H Q I hw => h.run pins s σ H Q I (i _ _ _ hw)⟩
end G
end
section
set_option Elab.async false
set_option linter.all false
set_option maxRecDepth 100000
/-! G: expressions. -/
namespace G
open PySem L2

def lstOf : Option CO → Option (List CV)
  | some (.lst xs) => some xs
  | some (.rol xs) => some xs
  | _ => none
theorem OR.seq {C : Cl} {ρ : List Addr} {H : Hp} {o : CO} {a : Addr} {xs : List CV} (h : OR C ρ H o a) (e : lstOf (some o) = some xs) : ∃ vs, SqL C.K H a vs ∧ RVs C.K ρ H xs vs := by
  cases o with
  | lst ys =>
    obtain ⟨vs, h1, h2⟩ := h
    cases e
    exact ⟨vs, SqL.of h1, h2⟩
  | rol ys =>
    obtain ⟨vs, h1, h2⟩ := h
    cases e
    exact ⟨vs, h1.seq, h2⟩
  | _ => cases e
theorem SR.seq {C : Cl} {ρ : List Addr} {S : CH} {H : Hp} (h : SR C ρ S H) {n : Nat} {a : Addr} {xs : List CV} (ha : ρ[n]? = some a) (e : lstOf S[n]? = some xs) : ∃ vs, SqL C.K H a vs ∧ RVs C.K ρ H xs vs := by
  obtain ⟨o, ho, r⟩ := h.cell ha
  rw [ho] at e
  exact r.seq e
/-- a new object in the clean heap -/
def M.new (o : CO) : M CV := fun S => .ok (.ref S.length) (S ++ [o])

section
variable {X : Cx} {C : Cl} {E : XK} {ρ : List Addr} {S : CH} {H : Hp}

/-! ### results -/
theorem MR.ret {v : CV} {vv : V} {Q : VK} (hs : SR C ρ S H) (r : RV C.K ρ H v vv) (h : MR C ρ H (RV C.K) (M.ret v S) Q E) : Q vv H := h ρ H vv .refl hs r
theorem MR.newL {xs : List CV} {vs : List V} {Q : VK} (hs : SR C ρ S H) (r : RVs C.K ρ H xs vs) (h : MR C ρ H (RV C.K) (M.new (.lst xs) S) Q E) : ∀ p, H p = none → Q (.ref p) (upd H p (.lst vs)) := fun p hp => by
  obtain ⟨s1, x1, e1⟩ := hs.push (u := .lst vs) (o := .lst xs) hp fun ρ' x' => ⟨vs, upd_same, r.up x'⟩
  exact h _ _ _ x1 s1 (.ref e1)
theorem MR.newT {xs : List CV} {vs : List V} {Q : VK} (hs : SR C ρ S H) (r : RVs C.K ρ H xs vs) (h : MR C ρ H (RV C.K) (M.ret (.tup xs) S) Q E) : ∀ p, H p = none → Q (.ref p) (upd H p (.tup vs)) := fun p hp => by
  obtain ⟨s1, x1⟩ := hs.laid (u := .tup vs) hp
  exact h _ _ _ x1 s1 (.tup (SqT.of upd_same) (r.up x1))
/-- an object is changed: o instead of o0 at n -/
def M.put (n : Nat) (o : CO) : M CV := fun S => .ok .non (S.set n o)

/-- only where c holds -/
def M.grd {α : Type} (c : Prop) [Decidable c] (m : M α) : M α := fun S => if c then m S else .stuck
theorem MR.grd {α β : Type} {R : List Addr → Hp → α → β → Prop} {c : Prop} [Decidable c] {m : M α} {Q : β → Hp → Prop} (h : MR C ρ H R (M.grd c m S) Q E) : c ∧ MR C ρ H R (m S) Q E := by
  unfold M.grd at h
  by_cases hc : c
  · rw [if_pos hc] at h
    exact ⟨hc, h⟩
  · rw [if_neg hc] at h
    exact h.elim

/-! ### names and constants -/
def eV (i : Nat) : Env → M CV := fun env => match env[i]? with
  | some (some c) => M.ret c
  | _ => M.stk
def eC (c : CV) : Env → M CV := fun _ => M.ret c
variable {e a b : Expr} {ma mb mc : Env → M CV} {pos : Pos}
theorem gv {i : Nat} (h : PE X e (tVar i)) : PE X e (tM C (eV i) E) := PE_imp h fun σ H Q ⟨ρ, S, env, hs, he, h⟩ => by
  unfold eV at h
  cases q : env[i]? with
  | none =>
    rw [q] at h
    exact h.elim
  | some o =>
    cases o with
    | none =>
      rw [q] at h
      exact h.elim
    | some c =>
      rw [q] at h
      obtain ⟨v, e1, r⟩ := he.get q
      exact ⟨v, e1, h.ret hs r⟩
theorem gc {c : CV} {v : V} (h : PE X e (tC v)) (r : ∀ ρ H, RV C.K ρ H c v) : PE X e (tM C (eC c) E) := PE_imp h fun σ H Q ⟨ρ, S, env, hs, he, h⟩ => MR.ret hs (r ρ H) h
theorem gint {i j} : PE X (.Constant (.int i) j pos) (tM C (eC (.int i)) E) := gc pe_int fun _ _ => .int _
theorem gbl {i j} : PE X (.Constant (.bool i) j pos) (tM C (eC (.bl i)) E) := gc pe_bl fun _ _ => .bl _
theorem gnon {j} : PE X (.Constant .none j pos) (tM C (eC .non) E) := gc pe_non fun _ _ => .non
theorem gstr {i j} : PE X (.Constant (.str i) j pos) (tM C (eC (.str i)) E) := gc pe_str fun _ _ => .str _

/-! ### two operands -/
def eB (f : CV → CV → M CV) (a b : Env → M CV) : Env → M CV := fun env => (a env).bind fun x => (b env).bind fun y => f x y
def BR (C : Cl) (E : XK) (r : R2) (f : CV → CV → M CV) : Prop := ∀ (ρ : List Addr) (S : CH) (H : Hp) (v w : CV) (vv ww : V) (Q : VK), SR C ρ S H → RV C.K ρ H v vv → RV C.K ρ H w ww → MR C ρ H (RV C.K) (f v w S) Q E → r vv ww H Q
theorem opI {r : R2} {f : CV → CV → M CV} (hf : BR C E r f) {σ : L2.St} {Q : VK} (h : tM C (eB f ma mb) E σ H Q) : tOp r (tM C ma E) (tM C mb E) σ H Q := by
  obtain ⟨ρ, S, env, hs, he, h⟩ := h
  exact ⟨ρ, S, env, hs, he, h.bind fun v S1 ρ1 H1 vv x1 s1 r1 h1 => ⟨ρ1, S1, env, s1, he.up x1, h1.bind fun w S2 ρ2 H2 ww x2 s2 r2 h2 => hf ρ2 S2 H2 v w vv ww Q s2 (r1.up x2) r2 h2⟩⟩
theorem gop {op : Operator} {r : R2} {f : CV → CV → M CV} (ho : OpR X (binaryOp op) r) (hf : BR C E r f) (ha : PE X a (tM C ma E)) (hb : PE X b (tM C mb E)) : PE X (.BinOp a op b pos) (tM C (eB f ma mb) E) :=
  PE_imp (pe_op ho ha hb) fun σ H Q h => opI hf h

/-- a + b -/
def vAdd : CV → CV → M CV
  | .int i, .int j => M.ret (.int (i + j))
  | .str x, .str y => M.grd (x.length + y.length ≤ sizeLine) (M.ret (.str (x ++ y)))
  | .tup xs, .tup ys => M.grd (xs.length + ys.length ≤ sizeLine) (M.ret (.tup (xs ++ ys)))
  | .ref n, .ref m => fun S => match S[n]?, S[m]? with
    | some (.lst xs), some (.lst ys) => M.grd (xs.length + ys.length ≤ sizeLine) (M.new (.lst (xs ++ ys))) S
    | _, _ => .stuck
  | _, _ => M.stk
def rAddA (K : PySem.W.Frag) : R2 := fun x y H Q => rI0 (fun i j => .int (i + j)) x y H Q ∨ ((∃ i j, x = .str i ∧ y = .str j ∧ i.length + j.length ≤ sizeLine ∧ Q (.str (i ++ j)) H) ∨ (rCatA K x y H Q ∨ rCat x y H Q))
theorem op_addA : OpR X (binaryOp .Add) (rAddA X.K) := op_add.or (op_add_str.or (op_catA.or op_cat))
theorem br_add : BR C E (rAddA C.K) vAdd := by
  intro ρ S H v w vv ww Q hs rv rw' h
  cases rv with
  | int i =>
    cases rw' with
    | int j => exact .inl ⟨i, j, rfl, rfl, h.ret hs (.int _)⟩
    | _ => exact h.elim
  | str x =>
    cases rw' with
    | str y =>
      obtain ⟨hz, h⟩ := MR.grd h
      exact .inr (.inl ⟨x, y, rfl, rfl, hz, h.ret hs (.str _)⟩)
    | _ => exact h.elim
  | @tup xs vs p hp tx =>
    cases rw' with
    | @tup ys us q hq ty =>
      obtain ⟨hz, h⟩ := MR.grd h
      refine .inr (.inr (.inl ⟨p, q, vs, us, rfl, rfl, hp, hq, by rw [← tx.length, ← ty.length]; exact hz, fun e => ?_, fun _ e => ?_, fun _ _ => ?_⟩))
      · subst e
        cases tx
        exact h.ret hs (.tup hq ty)
      · subst e
        cases ty
        rw [List.append_nil] at h
        exact h.ret hs (.tup hp tx)
      · exact h.newT hs (tx.append ty)
    | _ => exact h.elim
  | @ref n p hp =>
    cases rw' with
    | @ref m q hq =>
      unfold vAdd at h
      dsimp only at h
      split at h
      · rename_i xs ys e1 e2
        obtain ⟨hz, h⟩ := MR.grd h
        obtain ⟨o1, f1, r1⟩ := hs.cell hp
        rw [e1] at f1
        cases f1
        obtain ⟨o2, f2, r2⟩ := hs.cell hq
        rw [e2] at f2
        cases f2
        obtain ⟨vs, g1, t1⟩ := r1
        obtain ⟨us, g2, t2⟩ := r2
        exact .inr (.inr (.inr ⟨p, q, vs, us, rfl, rfl, g1, g2, by rw [← t1.length, ← t2.length]; exact hz, h.newL hs (t1.append t2)⟩))
      · exact h.elim
    | _ => exact h.elim
  | _ => exact h.elim
theorem gadd (hK : X.K = C.K) (ha : PE X a (tM C ma E)) (hb : PE X b (tM C mb E)) : PE X (.BinOp a .Add b pos) (tM C (eB vAdd ma mb) E) := gop (by rw [← hK]; exact op_addA) br_add ha hb

/-- whole numbers alone -/
def vI (p : Int → Int → Bool) (g : Int → Int → Int) : CV → CV → M CV
  | .int i, .int j => M.grd (p i j = true) (M.ret (.int (g i j)))
  | _, _ => M.stk
theorem br_int {Cn : Int → Int → Prop} {p : Int → Int → Bool} {g : Int → Int → Int} (hp : ∀ i j, p i j = true → Cn i j) : BR C E (rI Cn fun i j => .int (g i j)) (vI p g) := by
  intro ρ S H v w vv ww Q hs rv rw' h
  cases rv with
  | int i =>
    cases rw' with
    | int j =>
      obtain ⟨hz, h⟩ := MR.grd h
      exact ⟨i, j, rfl, rfl, hp _ _ hz, h.ret hs (.int _)⟩
    | _ => exact h.elim
  | _ => exact h.elim
def vSub : CV → CV → M CV := vI (fun _ _ => true) (· - ·)
theorem br_sub : BR C E (rI0 fun i j => .int (i - j)) vSub := fun ρ S H v w vv ww Q hs rv rw' h => by
  obtain ⟨i, j, e1, e2, _, q⟩ := br_int (C := C) (E := E) (Cn := fun _ _ => True) (fun _ _ _ => trivial) ρ S H v w vv ww Q hs rv rw' h
  exact ⟨i, j, e1, e2, q⟩
theorem gsub (ha : PE X a (tM C ma E)) (hb : PE X b (tM C mb E)) : PE X (.BinOp a .Sub b pos) (tM C (eB vSub ma mb) E) := gop op_sub br_sub ha hb
def mulOk (i j : Int) : Bool := decide (i.natAbs.log2 + j.natAbs.log2 < 1000000)
def vMul : CV → CV → M CV := vI mulOk (· * ·)
theorem gmul (ha : PE X a (tM C ma E)) (hb : PE X b (tM C mb E)) : PE X (.BinOp a .Mult b pos) (tM C (eB vMul ma mb) E) := gop op_mulW (br_int fun i j h => show i.natAbs.log2 + j.natAbs.log2 < 1000000 from of_decide_eq_true h) ha hb
def divOk (_ j : Int) : Bool := decide (0 < j) && decide (j.natAbs.log2 < 9000)
def vDiv : CV → CV → M CV := vI divOk (· / ·)
theorem gdiv (ha : PE X a (tM C ma E)) (hb : PE X b (tM C mb E)) : PE X (.BinOp a .FloorDiv b pos) (tM C (eB vDiv ma mb) E) :=
  gop op_fdivW (br_int fun i j h => by
    obtain ⟨h1, h2⟩ := Bool.and_eq_true_iff.mp h
    exact ⟨of_decide_eq_true h1, of_decide_eq_true h2⟩) ha hb
def vMod : CV → CV → M CV := vI (fun _ j => decide (0 < j)) (· % ·)
theorem gmod (ha : PE X a (tM C ma E)) (hb : PE X b (tM C mb E)) : PE X (.BinOp a .Mod b pos) (tM C (eB vMod ma mb) E) := gop op_mod (br_int fun _ _ h => of_decide_eq_true h) ha hb
def powOk (i j : Int) : Bool := decide (0 ≤ j) && (decide (j ≤ 1000000) && decide (i.natAbs < 2 ^ 64))
def vPow : CV → CV → M CV := vI powOk fun i j => i ^ j.toNat
theorem gpow (ha : PE X a (tM C ma E)) (hb : PE X b (tM C mb E)) : PE X (.BinOp a .Pow b pos) (tM C (eB vPow ma mb) E) :=
  gop op_pow (br_int fun i j h => by
    obtain ⟨h1, h2⟩ := Bool.and_eq_true_iff.mp h
    obtain ⟨h3, h4⟩ := Bool.and_eq_true_iff.mp h2
    exact ⟨of_decide_eq_true h1, of_decide_eq_true h3, of_decide_eq_true h4⟩) ha hb
/-- -a -/
def eNeg (a : Env → M CV) : Env → M CV := fun env => (a env).bind fun x => match x with
  | .int i => M.ret (.int (-i))
  | _ => M.stk
theorem gneg (ha : PE X a (tM C ma E)) : PE X (.UnaryOp .USub a pos) (tM C (eNeg ma) E) := PE_imp (pe_un un_neg ha) fun σ H Q ⟨ρ, S, env, hs, he, h⟩ =>
  ⟨ρ, S, env, hs, he, h.bind fun v S1 ρ1 H1 vv x1 s1 r1 h1 => by
    cases r1 with
    | int i => exact ⟨i, rfl, h1.ret s1 (.int _)⟩
    | _ => exact h1.elim⟩

/-! ### comparisons of whole numbers -/
def vCmp (p : Int → Int → Bool) : CV → CV → M CV
  | .int i, .int j => M.ret (.bl (p i j))
  | _, _ => M.stk
theorem br_cmp {p : Int → Int → Bool} : BR C E (rI0 fun i j => .bl (p i j)) (vCmp p) := by
  intro ρ S H v w vv ww Q hs rv rw' h
  cases rv with
  | int i =>
    cases rw' with
    | int j => exact ⟨i, j, rfl, rfl, h.ret hs (.bl _)⟩
    | _ => exact h.elim
  | _ => exact h.elim
abbrev vLt := vCmp fun i j => decide (i < j)
abbrev vLe := vCmp fun i j => decide (i ≤ j)
abbrev vGt := vCmp fun i j => decide (j < i)
abbrev vGe := vCmp fun i j => decide (j ≤ i)
theorem gcmp {op : CmpOp} {r : R2} {f : CV → CV → M CV} (ho : OpR X (compareOp op) r) (hf : BR C E r f) (ha : PE X a (tM C ma E)) (hb : PE X b (tM C mb E)) (hm : behindInMarks op b = false) : PE X (.Compare a [op] [b] pos) (tM C (eB f ma mb) E) :=
  PE_imp (pe_cmpR ho ha hb hm) fun σ H Q h => opI hf h
theorem glt (ha : PE X a (tM C ma E)) (hb : PE X b (tM C mb E)) : PE X (.Compare a [.Lt] [b] pos) (tM C (eB vLt ma mb) E) := gcmp op_lt br_cmp ha hb (nomark _)
theorem gle (ha : PE X a (tM C ma E)) (hb : PE X b (tM C mb E)) : PE X (.Compare a [.LtE] [b] pos) (tM C (eB vLe ma mb) E) := gcmp op_le br_cmp ha hb (nomark _)
theorem ggt (ha : PE X a (tM C ma E)) (hb : PE X b (tM C mb E)) : PE X (.Compare a [.Gt] [b] pos) (tM C (eB vGt ma mb) E) := gcmp op_gt br_cmp ha hb (nomark _)
theorem gge (ha : PE X a (tM C ma E)) (hb : PE X b (tM C mb E)) : PE X (.Compare a [.GtE] [b] pos) (tM C (eB vGe ma mb) E) := gcmp op_ge br_cmp ha hb (nomark _)
/-- a f b g c -/
def eChain (f g : CV → CV → M CV) (a b c : Env → M CV) : Env → M CV := fun env => (a env).bind fun x => (b env).bind fun y => (f x y).bind fun k => match k with
  | .bl true => (c env).bind fun z => g y z
  | .bl false => M.ret (.bl false)
  | _ => M.stk

/-! ### data: == -/
def mapO {α β : Type} (f : α → Option β) : List α → Option (List β)
  | [] => some []
  | x :: xs => match f x, mapO f xs with
    | some d, some ds => some (d :: ds)
    | _, _ => none
def dat (S : CH) : Nat → CV → Option PyData
  | 0, _ => none
  | k + 1, v => match v with
    | .non => some .none
    | .bl b => some (.bool b)
    | .int i => some (.int i)
    | .str x => some (.str x)
    | .tup xs => match mapO (dat S k) xs with
      | some ds => some (.tuple ds)
      | none => none
    | .ref n => match lstOf S[n]? with
      | some xs => match mapO (dat S k) xs with
        | some ds => some (.list ds)
        | none => none
      | none => none
theorem dp_all {K : PySem.W.Frag} {f : CV → Option PyData} (hf : ∀ v vv d, RV K ρ H v vv → f v = some d → Dp K H vv d) : ∀ {xs : List CV} {vs : List V} {ds : List PyData}, RVs K ρ H xs vs → mapO f xs = some ds → DpAll K H vs ds
  | [], _, ds, .nil, e => by
    cases e
    exact .nil
  | x :: xs, _, ds, .cons r t, e => by
    unfold mapO at e
    cases e1 : f x with
    | none =>
      rw [e1] at e
      cases e
    | some d =>
      rw [e1] at e
      cases e2 : mapO f xs with
      | none =>
        rw [e2] at e
        cases e
      | some es =>
        rw [e2] at e
        cases e
        exact .cons (hf _ _ _ r e1) (dp_all hf t e2)
theorem dp_of (hs : SR C ρ S H) : ∀ (k : Nat) (v : CV) (vv : V) (d : PyData), RV C.K ρ H v vv → dat S k v = some d → Dp C.K H vv d
  | 0, _, _, _, _, e => by cases e
  | k + 1, v, vv, d, r, e => by
    cases r with
    | non => cases e; exact .non
    | bl b => cases e; exact .bl b
    | int i => cases e; exact .int i
    | str x => cases e; exact .str x
    | @tup xs vs p hp t =>
      unfold dat at e
      dsimp only at e
      cases e1 : mapO (dat S k) xs with
      | none =>
        rw [e1] at e
        cases e
      | some ds =>
        rw [e1] at e
        cases e
        exact .tup hp (dp_all (fun v vv d => dp_of hs k v vv d) t e1)
    | @ref n a ha =>
      unfold dat at e
      dsimp only at e
      cases e0 : lstOf S[n]? with
      | none =>
        rw [e0] at e
        cases e
      | some xs =>
        rw [e0] at e
        dsimp only at e
        obtain ⟨vs, q1, q2⟩ := hs.seq ha e0
        cases e1 : mapO (dat S k) xs with
        | none =>
          rw [e1] at e
          cases e
        | some ds =>
          rw [e1] at e
          cases e
          exact .lst q1 (dp_all (fun v vv d => dp_of hs k v vv d) q2 e1)
/-- data that may be compared -/
def datK (S : CH) (v : CV) : Option PyData := match dat S 70 v with
  | some d => if SeqAt.shaped d = true then some d else none
  | none => none
theorem datK_ok (hs : SR C ρ S H) {v : CV} {vv : V} {d : PyData} (r : RV C.K ρ H v vv) (e : datK S v = some d) : Dp C.K H vv d ∧ SeqAt.shaped d = true := by
  unfold datK at e
  cases e1 : dat S 70 v with
  | none =>
    rw [e1] at e
    cases e
  | some d' =>
    rw [e1] at e
    dsimp only at e
    by_cases h : SeqAt.shaped d' = true
    · rw [if_pos h] at e
      cases e
      exact ⟨dp_of hs 70 v vv d r e1, h⟩
    · rw [if_neg h] at e
      cases e
def vEq (neg : Bool) : CV → CV → M CV := fun x y S => match datK S x, datK S y with
  | some d, some e => .ok (.bl (neg != PyData.eqv d e)) S
  | _, _ => .stuck
theorem br_eqD (neg : Bool) : BR C E (fun x y H Q => ∃ d e, Dp C.K H x d ∧ Dp C.K H y e ∧ SeqAt.shaped d = true ∧ SeqAt.shaped e = true ∧ Q (.bl (neg != PyData.eqv d e)) H) (vEq neg) := by
  intro ρ S H v w vv ww Q hs rv rw' h
  unfold vEq at h
  cases e1 : datK S v with
  | none =>
    rw [e1] at h
    exact h.elim
  | some d =>
    cases e2 : datK S w with
    | none =>
      rw [e1, e2] at h
      exact h.elim
    | some e =>
      rw [e1, e2] at h
      obtain ⟨a1, a2⟩ := datK_ok hs rv e1
      obtain ⟨b1, b2⟩ := datK_ok hs rw' e2
      exact ⟨d, e, a1, b1, a2, b2, MR.ret hs (.bl _) h⟩
theorem geq (hK : X.K = C.K) (hu : X.A.units + 64 < cLine) (ha : PE X a (tM C ma E)) (hb : PE X b (tM C mb E)) : PE X (.Compare a [.Eq] [b] pos) (tM C (eB (vEq false) ma mb) E) :=
  gcmp (r := fun x y H Q => ∃ d e, Dp C.K H x d ∧ Dp C.K H y e ∧ SeqAt.shaped d = true ∧ SeqAt.shaped e = true ∧ Q (.bl (false != PyData.eqv d e)) H)
    (by rw [← hK]; simp only [Bool.false_bne]; exact op_eqD hu) (br_eqD false) ha hb (nomark _)
theorem gne (hK : X.K = C.K) (hu : X.A.units + 64 < cLine) (ha : PE X a (tM C ma E)) (hb : PE X b (tM C mb E)) : PE X (.Compare a [.NotEq] [b] pos) (tM C (eB (vEq true) ma mb) E) :=
  gcmp (r := fun x y H Q => ∃ d e, Dp C.K H x d ∧ Dp C.K H y e ∧ SeqAt.shaped d = true ∧ SeqAt.shaped e = true ∧ Q (.bl (true != PyData.eqv d e)) H)
    (by rw [← hK]; simp only [Bool.true_bne]; exact op_neD hu) (br_eqD true) ha hb (nomark _)

/-! ### x in xs (a list, a tuple; data) -/
theorem op_inT (hu : X.A.units + 65 < cLine) : OpR X (compareOp .In) (fun x y H Q => ∃ d ds, Dp X.K H x d ∧ Dp X.K H y (.tuple ds) ∧ SeqAt.shaped d = true ∧ SeqAt.shaped (.list ds) = true ∧ Q (.bl (ds.any fun z => PyData.eqv z d)) H) := by
  intro pins s σ H x y v u Q I rx ry h
  obtain ⟨d, ds, hd, he, sd, se, q⟩ := h
  obtain ⟨as, r1⟩ := Dp.reads I d x v hd rx
  obtain ⟨bs, r2⟩ := Dp.reads I (.tuple ds) y u he ry
  exact SeqAt.in_tuple_reads r2 r1 (SeqAt.canLay_of_shaped se) (SeqAt.canLay_of_shaped sd) (PyProof.Rows.room_in_shaped sd hu) ⟨.bl _, H, I, rfl, q⟩
theorem op_notInT (hu : X.A.units + 65 < cLine) : OpR X (compareOp .NotIn) (fun x y H Q => ∃ d ds, Dp X.K H x d ∧ Dp X.K H y (.tuple ds) ∧ SeqAt.shaped d = true ∧ SeqAt.shaped (.list ds) = true ∧ Q (.bl (!ds.any fun z => PyData.eqv z d)) H) := by
  intro pins s σ H x y v u Q I rx ry h
  obtain ⟨d, ds, hd, he, sd, se, q⟩ := h
  obtain ⟨as, r1⟩ := Dp.reads I d x v hd rx
  obtain ⟨bs, r2⟩ := Dp.reads I (.tuple ds) y u he ry
  exact SeqAt.notIn_tuple_reads r2 r1 (SeqAt.canLay_of_shaped se) (SeqAt.canLay_of_shaped sd) (PyProof.Rows.room_in_shaped sd hu) ⟨.bl _, H, I, rfl, q⟩
def vIn (neg : Bool) : CV → CV → M CV := fun x y S => match datK S x, datK S y with
  | some d, some (.list ds) => .ok (.bl (neg != ds.any fun z => PyData.eqv z d)) S
  | some d, some (.tuple ds) => .ok (.bl (neg != ds.any fun z => PyData.eqv z d)) S
  | _, _ => .stuck
def rInA (K : PySem.W.Frag) (neg : Bool) : R2 := fun x y H Q => ∃ d ds, Dp K H x d ∧ (Dp K H y (.list ds) ∨ Dp K H y (.tuple ds)) ∧ SeqAt.shaped d = true ∧ SeqAt.shaped (.list ds) = true ∧ Q (.bl (neg != ds.any fun z => PyData.eqv z d)) H
theorem br_in (neg : Bool) : BR C E (rInA C.K neg) (vIn neg) := by
  intro ρ S H v w vv ww Q hs rv rw' h
  unfold vIn at h
  cases e1 : datK S v with
  | none =>
    rw [e1] at h
    exact h.elim
  | some d =>
    cases e2 : datK S w with
    | none =>
      rw [e1, e2] at h
      exact h.elim
    | some e =>
      rw [e1, e2] at h
      obtain ⟨a1, a2⟩ := datK_ok hs rv e1
      obtain ⟨b1, b2⟩ := datK_ok hs rw' e2
      cases e with
      | list ds => exact ⟨d, ds, a1, .inl b1, a2, b2, MR.ret hs (.bl _) h⟩
      | tuple ds => exact ⟨d, ds, a1, .inr b1, a2, b2, MR.ret hs (.bl _) h⟩
      | _ => exact h.elim
theorem op_inA (hu : X.A.units + 65 < cLine) : OpR X (compareOp .In) (rInA X.K false) := by
  intro pins s σ H x y v u Q I rx ry h
  obtain ⟨d, ds, h1, h2, h3, h4, q⟩ := h
  rw [Bool.false_bne] at q
  rcases h2 with h2 | h2
  · exact op_inD hu pins s σ H x y v u Q I rx ry ⟨d, ds, h1, h2, h3, h4, q⟩
  · exact op_inT hu pins s σ H x y v u Q I rx ry ⟨d, ds, h1, h2, h3, h4, q⟩
theorem op_notInA (hu : X.A.units + 65 < cLine) : OpR X (compareOp .NotIn) (rInA X.K true) := by
  intro pins s σ H x y v u Q I rx ry h
  obtain ⟨d, ds, h1, h2, h3, h4, q⟩ := h
  rw [Bool.true_bne] at q
  rcases h2 with h2 | h2
  · exact op_notInD hu pins s σ H x y v u Q I rx ry ⟨d, ds, h1, h2, h3, h4, q⟩
  · exact op_notInT hu pins s σ H x y v u Q I rx ry ⟨d, ds, h1, h2, h3, h4, q⟩
theorem gin (hK : X.K = C.K) (hu : X.A.units + 65 < cLine) (ha : PE X a (tM C ma E)) (hb : PE X b (tM C mb E)) (hm : behindInMarks .In b = false) : PE X (.Compare a [.In] [b] pos) (tM C (eB (vIn false) ma mb) E) :=
  gcmp (by rw [← hK]; exact op_inA hu) (br_in false) ha hb hm
theorem gnotin (hK : X.K = C.K) (hu : X.A.units + 65 < cLine) (ha : PE X a (tM C ma E)) (hb : PE X b (tM C mb E)) (hm : behindInMarks .NotIn b = false) : PE X (.Compare a [.NotIn] [b] pos) (tM C (eB (vIn true) ma mb) E) :=
  gcmp (by rw [← hK]; exact op_notInA hu) (br_in true) ha hb hm

/-! ### is None -/
def CV.isNon : CV → Bool
  | .non => true
  | _ => false
theorem RV.isNon {K : PySem.W.Frag} {v : CV} {vv : V} (r : RV K ρ H v vv) : decide (vv = .non) = v.isNon := by
  cases r <;> first | rfl | exact decide_eq_false (fun z => nomatch z)
def eIsN (neg : Bool) (a : Env → M CV) : Env → M CV := fun env => (a env).bind fun x => M.ret (.bl (neg != x.isNon))
theorem gisN {j pos'} (ha : PE X a (tM C ma E)) : PE X (.Compare a [.Is] [.Constant .none j pos'] pos) (tM C (eIsN false ma) E) := PE_imp (pe_cmp (pc_isN ha)) fun σ H Q ⟨ρ, S, env, hs, he, h⟩ =>
  ⟨ρ, S, env, hs, he, h.bind fun v S1 ρ1 H1 vv x1 s1 r1 h1 => by
    rw [Bool.false_bne] at h1
    rw [r1.isNon]
    exact h1.ret s1 (.bl _)⟩
theorem gnotN {j pos'} (ha : PE X a (tM C ma E)) : PE X (.Compare a [.IsNot] [.Constant .none j pos'] pos) (tM C (eIsN true ma) E) := PE_imp (pe_cmp (pc_notN ha)) fun σ H Q ⟨ρ, S, env, hs, he, h⟩ =>
  ⟨ρ, S, env, hs, he, h.bind fun v S1 ρ1 H1 vv x1 s1 r1 h1 => by
    rw [Bool.true_bne] at h1
    rw [r1.isNon]
    exact h1.ret s1 (.bl _)⟩

/-! ### chains -/
theorem chI {r r' : R2} {f g : CV → CV → M CV} (hf : BR C E r f) (hg : BR C E r' g) {σ : L2.St} {Q : VK} (h : tM C (eChain f g ma mb mc) E σ H Q) : tChain r r' (tM C ma E) (tM C mb E) (tM C mc E) σ H Q := by
  obtain ⟨ρ, S, env, hs, he, h⟩ := h
  refine ⟨ρ, S, env, hs, he, h.bind fun v S1 ρ1 H1 vv x1 s1 r1 h1 => ⟨ρ1, S1, env, s1, he.up x1, h1.bind fun w S2 ρ2 H2 ww x2 s2 r2 h2 => ?_⟩⟩
  refine hf ρ2 S2 H2 v w vv ww _ s2 (r1.up x2) r2 (h2.bind fun k S3 ρ3 H3 kk x3 s3 r3 h3 => ?_)
  cases r3 with
  | bl k =>
    refine ⟨k, rfl, ?_⟩
    cases k with
    | true => exact iteT ⟨ρ3, S3, env, s3, he.up ((x1.trans x2).trans x3), h3.bind fun z S4 ρ4 H4 zz x4 s4 r4 h4 => hg ρ4 S4 H4 w z ww zz Q s4 (r2.up (x3.trans x4)) r4 h4⟩
    | false => exact iteF (h3.ret s3 (.bl _))
  | _ => exact h3.elim
theorem gchain {op op' : CmpOp} {c : Expr} {r r' : R2} {f g : CV → CV → M CV} (ho : OpR X (compareOp op) r) (ho' : OpR X (compareOp op') r') (hf : BR C E r f) (hg : BR C E r' g) (ha : PE X a (tM C ma E)) (hb : PE X b (tM C mb E)) (hc : PE X c (tM C mc E))
    (hm : lastMarks [op, op'] [b, c] = false) : PE X (.Compare a [op, op'] [b, c] pos) (tM C (eChain f g ma mb mc) E) := PE_imp (pe_chain ho ho' ha hb hc hm) fun σ H Q h => chI hf hg h
end
end G
end
section
set_option Elab.async false
set_option linter.all false
set_option maxRecDepth 100000
/-! G: expressions, further: truth, displays, arguments, subscripts, slices, calls. -/
namespace G
open PySem L2
section
variable {X : Cx} {C : Cl} {E : XK} {ρ : List Addr} {S : CH} {H : Hp}
variable {e a b : Expr} {ma mb mc : Env → M CV} {pos : Pos}

/-! ### tests -/
def vB : CV → M Bool
  | .bl b => M.ret b
  | _ => M.stk
/-- a value that is a bool, as a test -/
def cV (a : Env → M CV) : Env → M Bool := fun env => (a env).bind vB
theorem MR.retB {k : Bool} {Q : Bool → Hp → Prop} (hs : SR C ρ S H) (h : MR C ρ H (fun _ _ a b => a = b) (M.ret k S) Q E) : Q k H := h ρ H k .refl hs rfl
theorem MR.vB {v : CV} {vv : V} {Q : Bool → Hp → Prop} (hs : SR C ρ S H) (r : RV C.K ρ H v vv) (h : MR C ρ H (fun _ _ a b => a = b) (G.vB v S) Q E) : ∃ k, vv = .bl k ∧ Q k H := by
  cases r with
  | bl k => exact ⟨k, rfl, h.retB hs⟩
  | _ => exact h.elim
theorem tval {σ : L2.St} {Q : Bool → Hp → Prop} (h : tMB C (cV ma) E σ H Q) : tB (tM C ma E) σ H Q := by
  obtain ⟨ρ, S, env, hs, he, h⟩ := h
  exact ⟨ρ, S, env, hs, he, h.bind fun v S1 ρ1 H1 vv x1 s1 r1 h1 => MR.vB s1 r1 h1⟩
theorem tcv (ha : PE X a (tM C ma E)) (he : ∀ whole, isTrue a X.env whole = (do let v ← whole; standAt a.pos; holding [v] (truthy v)) := by intro _; rfl) : PT X a (tMB C (cV ma) E) := PT_imp (pt_val ha he) fun σ H Q h => tval h
theorem tcmp {op : CmpOp} {r : R2} {f : CV → CV → M CV} (ho : OpR X (compareOp op) r) (hf : BR C E r f) (ha : PE X a (tM C ma E)) (hb : PE X b (tM C mb E)) (hm : behindInMarks op b = false) : PT X (.Compare a [op] [b] pos) (tMB C (cV (eB f ma mb)) E) :=
  PT_imp (pt_cmpR ho ha hb hm) fun σ H Q h => by
    obtain ⟨ρ, S, env, hs, he, h⟩ := h
    exact opI (Q := fun x H' => ∃ k, x = .bl k ∧ Q k H') hf ⟨ρ, S, env, hs, he, MR.bind (R := RV C.K) h fun v S1 ρ1 H1 vv x1 s1 r1 h1 => MR.vB s1 r1 h1⟩
theorem tchain {op op' : CmpOp} {c : Expr} {r r' : R2} {f g : CV → CV → M CV} (ho : OpR X (compareOp op) r) (ho' : OpR X (compareOp op') r') (hf : BR C E r f) (hg : BR C E r' g) (ha : PE X a (tM C ma E)) (hb : PE X b (tM C mb E)) (hc : PE X c (tM C mc E))
    (hm : lastMarks [op, op'] [b, c] = false) : PT X (.Compare a [op, op'] [b, c] pos) (tMB C (cV (eChain f g ma mb mc)) E) :=
  PT_imp (pt_chain ho ho' ha hb hc hm) fun σ H Q h => by
    obtain ⟨ρ, S, env, hs, he, h⟩ := h
    exact chI (Q := fun x H' => ∃ k, x = .bl k ∧ Q k H') hf hg ⟨ρ, S, env, hs, he, MR.bind (R := RV C.K) h fun v S1 ρ1 H1 vv x1 s1 r1 h1 => MR.vB s1 r1 h1⟩
theorem tisN {j pos'} (ha : PE X a (tM C ma E)) : PT X (.Compare a [.Is] [.Constant .none j pos'] pos) (tMB C (cV (eIsN false ma)) E) := PT_imp (pt_cmp (pc_isN ha)) fun σ H Q ⟨ρ, S, env, hs, he, h⟩ =>
  ⟨ρ, S, env, hs, he, MR.bind (m := ma env) (f := fun x => (M.ret (.bl (false != x.isNon))).bind G.vB) (by rw [← M.bind_bind]; exact h) fun v S1 ρ1 H1 vv x1 s1 r1 h1 => by
    rw [Bool.false_bne] at h1
    rw [r1.isNon]
    exact ⟨_, rfl, h1.retB s1⟩⟩
theorem tnotN {j pos'} (ha : PE X a (tM C ma E)) : PT X (.Compare a [.IsNot] [.Constant .none j pos'] pos) (tMB C (cV (eIsN true ma)) E) := PT_imp (pt_cmp (pc_notN ha)) fun σ H Q ⟨ρ, S, env, hs, he, h⟩ =>
  ⟨ρ, S, env, hs, he, MR.bind (m := ma env) (f := fun x => (M.ret (.bl (true != x.isNon))).bind G.vB) (by rw [← M.bind_bind]; exact h) fun v S1 ρ1 H1 vv x1 s1 r1 h1 => by
    rw [Bool.true_bne] at h1
    rw [r1.isNon]
    exact ⟨_, rfl, h1.retB s1⟩⟩
variable {ca cb : Env → M Bool}
def cNot (a : Env → M Bool) : Env → M Bool := fun env => (a env).bind fun k => M.ret (!k)
theorem tnot (ha : PT X a (tMB C ca E)) : PT X (.UnaryOp .Not a pos) (tMB C (cNot ca) E) := PT_imp (pt_not ha) fun σ H Q ⟨ρ, S, env, hs, he, h⟩ =>
  ⟨ρ, S, env, hs, he, h.bind fun k S1 ρ1 H1 kk x1 s1 r1 h1 => by
    subst r1
    exact h1.retB s1⟩
def cAnd (a b : Env → M Bool) : Env → M Bool := fun env => (a env).bind fun k => match k with
  | true => b env
  | false => M.ret false
def cOr (a b : Env → M Bool) : Env → M Bool := fun env => (a env).bind fun k => match k with
  | true => M.ret true
  | false => b env
variable {rest : List Expr}
theorem wand1 (ha : PT X a (tMB C ca E)) : PW X (.BoolOp .And [a] pos) (tMB C ca E) := pw_and1 ha
theorem wor1 (ha : PT X a (tMB C ca E)) : PW X (.BoolOp .Or [a] pos) (tMB C ca E) := pw_or1 ha
theorem wand (ha : PT X a (tMB C ca E)) (hb : PW X (.BoolOp .And (b :: rest) pos) (tMB C cb E)) : PW X (.BoolOp .And (a :: b :: rest) pos) (tMB C (cAnd ca cb) E) := PW_imp (pw_and ha hb) fun σ H Q ⟨ρ, S, env, hs, he, h⟩ =>
  ⟨ρ, S, env, hs, he, h.bind fun k S1 ρ1 H1 kk x1 s1 r1 h1 => by
    subst r1
    cases k with
    | true => exact iteT ⟨ρ1, S1, env, s1, he.up x1, h1⟩
    | false => exact iteF (h1.retB s1)⟩
theorem wor (ha : PT X a (tMB C ca E)) (hb : PW X (.BoolOp .Or (b :: rest) pos) (tMB C cb E)) : PW X (.BoolOp .Or (a :: b :: rest) pos) (tMB C (cOr ca cb) E) := PW_imp (pw_or ha hb) fun σ H Q ⟨ρ, S, env, hs, he, h⟩ =>
  ⟨ρ, S, env, hs, he, h.bind fun k S1 ρ1 H1 kk x1 s1 r1 h1 => by
    subst r1
    cases k with
    | true => exact iteT (h1.retB s1)
    | false => exact iteF ⟨ρ1, S1, env, s1, he.up x1, h1⟩⟩
/-- and, or, not as values (all but the last a bool) -/
def eAnd (a b : Env → M CV) : Env → M CV := fun env => (a env).bind fun x => match x with
  | .bl true => b env
  | .bl false => M.ret (.bl false)
  | _ => M.stk
def eOr (a b : Env → M CV) : Env → M CV := fun env => (a env).bind fun x => match x with
  | .bl true => M.ret (.bl true)
  | .bl false => b env
  | _ => M.stk
def eNot (a : Env → M CV) : Env → M CV := fun env => (a env).bind fun x => match x with
  | .bl k => M.ret (.bl (!k))
  | _ => M.stk
theorem gone {op} (ha : PE X a (tM C ma E)) : PE X (.BoolOp op [a] pos) (tM C ma E) := pe_one ha
theorem gand (ha : PE X a (tM C ma E)) (hb : PE X (.BoolOp .And (b :: rest) pos) (tM C mb E)) : PE X (.BoolOp .And (a :: b :: rest) pos) (tM C (eAnd ma mb) E) := PE_imp (pe_and ha hb) fun σ H Q ⟨ρ, S, env, hs, he, h⟩ =>
  ⟨ρ, S, env, hs, he, h.bind fun v S1 ρ1 H1 vv x1 s1 r1 h1 => by
    cases r1 with
    | bl k =>
      refine ⟨k, rfl, ?_⟩
      cases k with
      | true => exact iteT ⟨ρ1, S1, env, s1, he.up x1, h1⟩
      | false => exact iteF (h1.ret s1 (.bl _))
    | _ => exact h1.elim⟩
theorem gor (ha : PE X a (tM C ma E)) (hb : PE X (.BoolOp .Or (b :: rest) pos) (tM C mb E)) : PE X (.BoolOp .Or (a :: b :: rest) pos) (tM C (eOr ma mb) E) := PE_imp (pe_or ha hb) fun σ H Q ⟨ρ, S, env, hs, he, h⟩ =>
  ⟨ρ, S, env, hs, he, h.bind fun v S1 ρ1 H1 vv x1 s1 r1 h1 => by
    cases r1 with
    | bl k =>
      refine ⟨k, rfl, ?_⟩
      cases k with
      | true => exact iteT (h1.ret s1 (.bl _))
      | false => exact iteF ⟨ρ1, S1, env, s1, he.up x1, h1⟩
    | _ => exact h1.elim⟩
theorem gnot (ha : PE X a (tM C ma E)) : PE X (.UnaryOp .Not a pos) (tM C (eNot ma) E) := PE_imp (pe_not ha) fun σ H Q ⟨ρ, S, env, hs, he, h⟩ =>
  ⟨ρ, S, env, hs, he, h.bind fun v S1 ρ1 H1 vv x1 s1 r1 h1 => by
    cases r1 with
    | bl k => exact ⟨k, rfl, h1.ret s1 (.bl _)⟩
    | _ => exact h1.elim⟩
def eIf (c : Env → M Bool) (a b : Env → M CV) : Env → M CV := fun env => (c env).bind fun k => match k with
  | true => a env
  | false => b env
theorem gif {c : Expr} {mt : Env → M Bool} (hc : PT X c (tMB C mt E)) (ha : PE X a (tM C ma E)) (hb : PE X b (tM C mb E)) : PE X (.IfExp c a b pos) (tM C (eIf mt ma mb) E) := PE_imp (pe_ifExp hc ha hb) fun σ H Q ⟨ρ, S, env, hs, he, h⟩ =>
  ⟨ρ, S, env, hs, he, h.bind fun k S1 ρ1 H1 kk x1 s1 r1 h1 => by
    subst r1
    cases k with
    | true => exact iteT ⟨ρ1, S1, env, s1, he.up x1, h1⟩
    | false => exact iteF ⟨ρ1, S1, env, s1, he.up x1, h1⟩⟩

/-! ### arguments, displays -/
variable {es : List Expr} {mr : Env → M (List CV)}
def aNil : Env → M (List CV) := fun _ => M.ret []
def aCons (a : Env → M CV) (r : Env → M (List CV)) : Env → M (List CV) := fun env => (a env).bind fun x => (r env).bind fun xs => M.ret (x :: xs)
theorem MR.retA {xs : List CV} {vs : List V} {Q : List V → Hp → Prop} (hs : SR C ρ S H) (r : RVs C.K ρ H xs vs) (h : MR C ρ H (RVs C.K) (M.ret xs S) Q E) : Q vs H := h ρ H vs .refl hs r
theorem anil : PA X [] (tMA C aNil E) := PA_imp pa_nil fun σ H Q ⟨ρ, S, env, hs, he, h⟩ => h.retA hs .nil
theorem acons (ha : PE X e (tM C ma E)) (hr : PA X es (tMA C mr E)) (hs : starEach (e :: es) X.env = (false, eval e X.env) :: starEach es X.env := by rfl) : PA X (e :: es) (tMA C (aCons ma mr) E) := PA_imp (pa_cons ha hr hs) fun σ H Q ⟨ρ, S, env, hs, he, h⟩ =>
  ⟨ρ, S, env, hs, he, h.bind fun v S1 ρ1 H1 vv x1 s1 r1 h1 => ⟨ρ1, S1, env, s1, he.up x1, h1.bind fun vs S2 ρ2 H2 ws x2 s2 r2 h2 => h2.retA s2 (.cons (r1.up x2) r2)⟩⟩
def eTup (r : Env → M (List CV)) : Env → M CV := fun env => (r env).bind fun xs => M.grd (xs.length ≤ sizeLine) (M.ret (.tup xs))
def eLst (r : Env → M (List CV)) : Env → M CV := fun env => (r env).bind fun xs => M.grd (xs.length ≤ sizeLine) (M.new (.lst xs))
theorem gtup {x1} (h : PA X es (tMA C mr E)) : PE X (.Tuple es x1 pos) (tM C (eTup mr) E) := PE_imp (pe_tup h) fun σ H Q ⟨ρ, S, env, hs, he, h⟩ =>
  ⟨ρ, S, env, hs, he, h.bind fun vs S1 ρ1 H1 ws x1 s1 r1 h1 => by
    obtain ⟨hz, h1⟩ := MR.grd h1
    exact ⟨by rw [← r1.length]; exact hz, h1.newT s1 r1⟩⟩
theorem glst (h : PA X es (tMA C mr E)) : PE X (.List es pos) (tM C (eLst mr) E) := PE_imp (pe_lst h) fun σ H Q ⟨ρ, S, env, hs, he, h⟩ =>
  ⟨ρ, S, env, hs, he, h.bind fun vs S1 ρ1 H1 ws x1 s1 r1 h1 => by
    obtain ⟨hz, h1⟩ := MR.grd h1
    exact ⟨by rw [← r1.length]; exact hz, h1.newL s1 r1⟩⟩

/-! ### xs[i] -/
theorem RVs.at {K : PySem.W.Frag} {xs : List CV} {vs : List V} (r : RVs K ρ H xs vs) {i : Int} {c : CV} (e : atI xs i = some c) : ∃ v, atI vs i = some v ∧ RV K ρ H c v := by
  unfold atI at e ⊢
  rw [← r.length]
  cases q : ixN xs.length i with
  | none =>
    rw [q] at e
    cases e
  | some j =>
    rw [q] at e
    exact r.get' e
def vIx : CV → CV → M CV := fun x y => match x, y with
  | .tup xs, .int i => match atI xs i with
    | some c => M.ret c
    | none => M.stk
  | .ref n, .int i => fun S => match lstOf S[n]? with
    | some xs => match atI xs i with
      | some c => .ok c S
      | none => .stuck
    | none => .stuck
  | .str z, .int i => match atI z.cps.toList i with
    | some c => M.grd (z.length ≤ sizeLine) (M.ret (.str ⟨#[c]⟩))
    | none => M.stk
  | _, _ => M.stk
theorem br_ix : BR C E (rIx C.K) vIx := by
  intro ρ S H v w vv ww Q hs rv rw' h
  cases rw' with
  | int i =>
    cases rv with
    | @tup xs vs p hp t =>
      unfold vIx at h
      dsimp only at h
      cases q : atI xs i with
      | none =>
        rw [q] at h
        exact h.elim
      | some c =>
        rw [q] at h
        obtain ⟨v, q2, r⟩ := t.at q
        exact .inr (.inl ⟨p, vs, i, v, rfl, rfl, hp, q2, h.ret hs r⟩)
    | @ref n p hp =>
      unfold vIx at h
      dsimp only at h
      cases q0 : lstOf S[n]? with
      | none =>
        rw [q0] at h
        exact h.elim
      | some xs =>
        rw [q0] at h
        dsimp only at h
        obtain ⟨vs, g1, t⟩ := hs.seq hp q0
        cases q : atI xs i with
        | none =>
          rw [q] at h
          exact h.elim
        | some c =>
          rw [q] at h
          obtain ⟨v, q2, r⟩ := t.at q
          exact .inl ⟨p, vs, i, v, rfl, rfl, g1, q2, MR.ret hs r h⟩
    | str z =>
      unfold vIx at h
      dsimp only at h
      cases q : atI z.cps.toList i with
      | none =>
        rw [q] at h
        exact h.elim
      | some c =>
        rw [q] at h
        obtain ⟨hz, h⟩ := MR.grd h
        exact .inr (.inr ⟨z, i, c, rfl, rfl, hz, q, h.ret hs (.str _)⟩)
    | _ => exact h.elim
  | _ => cases rv <;> exact h.elim
theorem gix (hK : X.K = C.K) (ha : PE X a (tM C ma E)) (hb : PE X b (tM C mb E)) (hp : PlainIx b) : PE X (.Subscript a b pos) (tM C (eB vIx ma mb) E) :=
  PE_imp (pe_ix (r := rIx C.K) (by rw [← hK]; exact ix_seq) ha hb hp) fun σ H Q h => opI br_ix h

/-! ### slices -/
def oNone : Env → M (Option Int) := fun _ => M.ret none
def oSome (a : Env → M CV) : Env → M (Option Int) := fun env => (a env).bind fun x => match x with
  | .int i => M.ret (some i)
  | _ => M.stk
theorem MR.retO {k : Option Int} {Q : Option Int → Hp → Prop} (hs : SR C ρ S H) (h : MR C ρ H (fun _ _ a b => a = b) (M.ret k S) Q E) : Q k H := h ρ H k .refl hs rfl
theorem onone : PO X none (tMO C oNone E) := PO_imp po_none fun σ H Q ⟨ρ, S, env, hs, he, h⟩ => h.retO hs
theorem osome (ha : PE X e (tM C ma E)) : PO X (some e) (tMO C (oSome ma) E) := PO_imp (po_some ha) fun σ H Q ⟨ρ, S, env, hs, he, h⟩ =>
  ⟨ρ, S, env, hs, he, h.bind fun v S1 ρ1 H1 vv x1 s1 r1 h1 => by
    cases r1 with
    | int i => exact ⟨i, rfl, h1.retO s1⟩
    | _ => exact h1.elim⟩
def cutL {α : Type} (xs : List α) (lo hi : Option Int) : List α := (xs.drop (HT.sIx xs.length 0 lo)).take (HT.sIx xs.length xs.length hi - HT.sIx xs.length 0 lo)
theorem RVs.cut {K : PySem.W.Frag} {xs : List CV} {vs : List V} (r : RVs K ρ H xs vs) (lo hi : Option Int) : RVs K ρ H (cutL xs lo hi) (cutV vs lo hi) := by
  unfold cutL cutV
  rw [r.length]
  exact (r.drop _).take _
def vSl : CV → Option Int → Option Int → M CV := fun x lo hi => match x with
  | .tup xs => M.ret (.tup (cutL xs lo hi))
  | .ref n => fun S => match lstOf S[n]? with
    | some xs => M.new (.lst (cutL xs lo hi)) S
    | none => .stuck
  | _ => M.stk
def eSl (a : Env → M CV) (lo hi : Env → M (Option Int)) : Env → M CV := fun env => (a env).bind fun x => (lo env).bind fun l => (hi env).bind fun u => vSl x l u
def rSlQ (K : PySem.W.Frag) : V → Option Int → Option Int → Hp → VK → Prop := fun x lo hi H Q => rSlA K x lo hi H Q ∨ rSlL K x lo hi H Q
theorem br_sl {x : CV} {xx : V} {lo hi : Option Int} {Q : VK} (hs : SR C ρ S H) (r : RV C.K ρ H x xx) (h : MR C ρ H (RV C.K) (vSl x lo hi S) Q E) : rSlQ C.K xx lo hi H Q := by
  cases r with
  | @tup xs vs p hp t =>
    refine .inl ⟨p, vs, rfl, hp, fun ⟨h1, h2⟩ => ?_, fun _ => h.newT hs (t.cut lo hi)⟩
    have e : cutL xs lo hi = xs := by
      unfold cutL
      rw [t.length, h1, h2, List.drop_zero, Nat.sub_zero]
      exact List.take_of_length_le (by rw [t.length]; exact Nat.le_refl _)
    unfold vSl at h
    dsimp only at h
    rw [e] at h
    exact h.ret hs (.tup hp t)
  | @ref n p hp =>
    unfold vSl at h
    dsimp only at h
    cases q0 : lstOf S[n]? with
    | none =>
      rw [q0] at h
      exact h.elim
    | some xs =>
      rw [q0] at h
      obtain ⟨vs, g1, t⟩ := hs.seq hp q0
      exact .inr ⟨p, vs, rfl, g1, MR.newL hs (t.cut lo hi) h⟩
  | _ => exact h.elim
variable {ml mh : Env → M (Option Int)} {lo hi : Option Expr} {p2 : Pos}
theorem gsl (hK : X.K = C.K) (ha : PE X e (tM C ma E)) (hl : PO X lo (tMO C ml E)) (hh : PO X hi (tMO C mh E)) : PE X (.Subscript e (.Slice lo hi none p2) pos) (tM C (eSl ma ml mh) E) :=
  PE_imp (pe_slice (r := rSlQ C.K) (by rw [← hK]; exact sl_tupA.or sl_list) ha hl hh) fun σ H Q ⟨ρ, S, env, hs, he, h⟩ =>
    ⟨ρ, S, env, hs, he, h.bind fun v S1 ρ1 H1 vv x1 s1 r1 h1 => ⟨ρ1, S1, env, s1, he.up x1, h1.bind fun l S2 ρ2 H2 ll x2 s2 r2 h2 => ⟨ρ2, S2, env, s2, he.up (x1.trans x2), h2.bind fun u S3 ρ3 H3 uu x3 s3 r3 h3 => by
      subst r2 r3
      exact br_sl s3 (r1.up (x2.trans x3)) h3⟩⟩⟩

/-! ### calls of built-ins by values -/
def CRl (C : Cl) (E : XK) (r : List V → Hp → VK → Prop) (f : List CV → M CV) : Prop := ∀ (ρ : List Addr) (S : CH) (H : Hp) (xs : List CV) (vs : List V) (Q : VK), SR C ρ S H → RVs C.K ρ H xs vs → MR C ρ H (RV C.K) (f xs S) Q E → r vs H Q
def eCl (f : List CV → M CV) (r : Env → M (List CV)) : Env → M CV := fun env => (r env).bind f
theorem clI {r : List V → Hp → VK → Prop} {f : List CV → M CV} (hf : CRl C E r f) {σ : L2.St} {Q : VK} (h : tM C (eCl f mr) E σ H Q) : tMA C mr E σ H (fun vs H1 => r vs H1 Q) := by
  obtain ⟨ρ, S, env, hs, he, h⟩ := h
  exact ⟨ρ, S, env, hs, he, h.bind fun vs S1 ρ1 H1 ws x1 s1 r1 h1 => hf ρ1 S1 H1 vs ws Q s1 r1 h1⟩
theorem gcb {x : Str} {id : String} {p : Pos} {r : List V → Hp → VK → Prop} {f : List CV → M CV} (hf : CRl C E r f) (hc : CallR X (.builtin id) r) (hg : Gl X x) (hm : X.mg x = none) (hv : bootBuiltins x = some (.builtin id)) (ha : PA X (e :: es) (tMA C mr E)) (hn : x ≠ "__name__" := by decide) (hdb : (x == ("__debug__" : Str)) = false := by decide)
    (he : starEach (e :: es) X.env = (false, eval e X.env) :: starEach es X.env := by rfl) (hpl : (backTo pos (starEach es X.env)).any (·.1) = false := by rfl) : PE X (.Call (.Name x p) (e :: es) [] pos) (tM C (eCl f mr) E) :=
  PE_imp (pe_callB hc hg hm hv ha hn hdb he hpl) fun σ H Q h => clI hf h
theorem gct {x : Str} {T : String} {p : Pos} {r : List V → Hp → VK → Prop} {f : List CV → M CV} (hf : CRl C E r f) (hc : CallR X (.type T) r) (hg : Gl X x) (hm : X.mg x = none) (hv : bootBuiltins x = some (.type T)) (ha : PA X (e :: es) (tMA C mr E)) (hn : x ≠ "__name__" := by decide) (hdb : (x == ("__debug__" : Str)) = false := by decide)
    (he : starEach (e :: es) X.env = (false, eval e X.env) :: starEach es X.env := by rfl) (hpl : (backTo pos (starEach es X.env)).any (·.1) = false := by rfl) : PE X (.Call (.Name x p) (e :: es) [] pos) (tM C (eCl f mr) E) :=
  PE_imp (pe_callTy hc hg hm hv ha hn hdb he hpl) fun σ H Q h => clI hf h
end
end G
end
section
set_option Elab.async false
set_option linter.all false
set_option maxRecDepth 100000
/-! G: calls. -/
namespace G
open PySem L2
section
variable {X : Cx} {C : Cl} {E : XK} {ρ : List Addr} {S : CH} {H : Hp}
variable {e a b : Expr} {es : List Expr} {ma mb mc : Env → M CV} {mr : Env → M (List CV)} {pos : Pos}

theorem RVs.one {K : PySem.W.Frag} {x : CV} {vs : List V} (r : RVs K ρ H [x] vs) : ∃ v, vs = [v] ∧ RV K ρ H x v := by
  cases r with
  | cons r t =>
    cases t
    exact ⟨_, rfl, r⟩
theorem RVs.two {K : PySem.W.Frag} {x y : CV} {vs : List V} (r : RVs K ρ H [x, y] vs) : ∃ v w, vs = [v, w] ∧ RV K ρ H x v ∧ RV K ρ H y w := by
  cases r with
  | cons r t =>
    obtain ⟨w, e, r2⟩ := t.one
    exact ⟨_, w, by rw [e], r, r2⟩

/-! ### len -/
def vLen : List CV → M CV := fun xs S => match xs with
  | [.tup ys] => .ok (.int ys.length) S
  | [.str z] => M.grd (z.length ≤ sizeLine) (M.ret (.int z.length)) S
  | [.ref n] => match S[n]? with
    | some (.lst ys) => .ok (.int ys.length) S
    | some (.rol ys) => .ok (.int ys.length) S
    | some (.dct kvs) => .ok (.int kvs.length) S
    | _ => .stuck
  | _ => .stuck
theorem RF.len {K : PySem.W.Frag} {fs : List (String × CV)} {gs : List (Str × V)} (h : RF K ρ H fs gs) : fs.length = gs.length := by
  have := congrArg List.length h.1
  simp at this
  exact this.symm
theorem RK.len {K : PySem.W.Frag} {fs : List (Key × CV)} {gs : List (Key × V)} (h : RK K ρ H fs gs) : fs.length = gs.length := by
  have := congrArg List.length h.1
  simp at this
  exact this.symm
theorem call_lenA : CallR X (.builtin "len") (fun xs H Q => (∃ x n, xs = [x] ∧ LenV X.K x H n ∧ Q (.int n) H) ∨ (∃ a kvs, xs = [V.ref a] ∧ H a = some (.dK kvs) ∧ Q (.int kvs.length) H)) := call_len.or call_lenD
theorem cr_len : CRl C E (fun xs H Q => (∃ x n, xs = [x] ∧ LenV C.K x H n ∧ Q (.int n) H) ∨ (∃ a kvs, xs = [V.ref a] ∧ H a = some (.dK kvs) ∧ Q (.int kvs.length) H)) vLen := by
  intro ρ S H xs vs Q hs r h
  match xs, r, h with
  | [x], r, h =>
    obtain ⟨v, rfl, r1⟩ := r.one
    cases r1 with
    | @tup ys us p hp t =>
      refine .inl ⟨_, us.length, rfl, .inr ⟨us, hp, rfl⟩, ?_⟩
      rw [← t.length]
      exact MR.ret hs (.int _) h
    | str z =>
      obtain ⟨hz, h⟩ := MR.grd h
      exact .inl ⟨_, z.length, rfl, ⟨hz, rfl⟩, h.ret hs (.int _)⟩
    | @ref n p hp =>
      obtain ⟨o, ho, ro⟩ := hs.cell hp
      unfold vLen at h
      dsimp only at h
      rw [ho] at h
      cases o with
      | lst ys =>
        obtain ⟨us, g, t⟩ := ro
        refine .inl ⟨_, us.length, rfl, .inl ⟨us, SqL.of g, rfl⟩, ?_⟩
        rw [← t.length]
        exact MR.ret hs (.int _) h
      | rol ys =>
        obtain ⟨us, g, t⟩ := ro
        refine .inl ⟨_, us.length, rfl, .inl ⟨us, g.seq, rfl⟩, ?_⟩
        rw [← t.length]
        exact MR.ret hs (.int _) h
      | dct kvs =>
        obtain ⟨gs, g, t⟩ := ro
        refine .inr ⟨_, gs, rfl, g, ?_⟩
        rw [← t.len]
        exact MR.ret hs (.int _) h
      | _ => exact h.elim
    | _ => exact h.elim
  | [], _, h => exact h.elim
  | x :: y :: r, _, h =>
    cases x <;> exact h.elim
theorem glen {p : Pos} (hK : X.K = C.K) (hg : Gl X "len") (hm : X.mg "len" = none) (ha : PA X (e :: es) (tMA C mr E)) (he : starEach (e :: es) X.env = (false, eval e X.env) :: starEach es X.env := by rfl) (hpl : (backTo pos (starEach es X.env)).any (·.1) = false := by rfl) :
    PE X (.Call (.Name "len" p) (e :: es) [] pos) (tM C (eCl vLen mr) E) := gcb cr_len (by rw [← hK]; exact call_lenA) hg hm PySem.boot_len ha (by decide) (by decide) he hpl

/-! ### int, abs, min, max -/
def vInt : List CV → M CV
  | [.int i] => M.ret (.int i)
  | [.bl k] => M.ret (.int (if k then 1 else 0))
  | _ => M.stk
theorem cr_int : CRl C E (fun xs H Q => (∃ i, xs = [.int i] ∧ Q (.int i) H) ∨ ∃ k, xs = [.bl k] ∧ Q (.int (if k then 1 else 0)) H) vInt := by
  intro ρ S H xs vs Q hs r h
  match xs, r, h with
  | [x], r, h =>
    obtain ⟨v, rfl, r1⟩ := r.one
    cases r1 with
    | int i => exact .inl ⟨i, rfl, MR.ret hs (.int _) h⟩
    | bl k => exact .inr ⟨k, rfl, MR.ret hs (.int _) h⟩
    | _ => exact h.elim
  | [], _, h => exact h.elim
  | x :: y :: r, _, h => cases x <;> exact h.elim
theorem gcint {p : Pos} (hg : Gl X "int") (hm : X.mg "int" = none) (ha : PA X (e :: es) (tMA C mr E)) (he : starEach (e :: es) X.env = (false, eval e X.env) :: starEach es X.env := by rfl) (hpl : (backTo pos (starEach es X.env)).any (·.1) = false := by rfl) :
    PE X (.Call (.Name "int" p) (e :: es) [] pos) (tM C (eCl vInt mr) E) := gct cr_int call_int1 hg hm (by decide +kernel) ha (by decide) (by decide) he hpl
def vAbs : List CV → M CV
  | [.int i] => M.ret (.int (if i < 0 then -i else i))
  | _ => M.stk
theorem cr_abs : CRl C E (fun xs H Q => ∃ i, xs = [.int i] ∧ Q (.int (if i < 0 then -i else i)) H) vAbs := by
  intro ρ S H xs vs Q hs r h
  match xs, r, h with
  | [x], r, h =>
    obtain ⟨v, rfl, r1⟩ := r.one
    cases r1 with
    | int i => exact ⟨i, rfl, MR.ret hs (.int _) h⟩
    | _ => exact h.elim
  | [], _, h => exact h.elim
  | x :: y :: r, _, h => cases x <;> exact h.elim
theorem gabs {p : Pos} (hg : Gl X "abs") (hm : X.mg "abs" = none) (ha : PA X (e :: es) (tMA C mr E)) (he : starEach (e :: es) X.env = (false, eval e X.env) :: starEach es X.env := by rfl) (hpl : (backTo pos (starEach es X.env)).any (·.1) = false := by rfl) :
    PE X (.Call (.Name "abs" p) (e :: es) [] pos) (tM C (eCl vAbs mr) E) := gcb cr_abs call_abs hg hm (by decide +kernel) ha (by decide) (by decide) he hpl
def vMin2 : List CV → M CV
  | [.int i, .int j] => M.ret (.int (if j < i then j else i))
  | _ => M.stk
def vMax2 : List CV → M CV
  | [.int i, .int j] => M.ret (.int (if j > i then j else i))
  | _ => M.stk
theorem cr_min2 : CRl C E (fun xs H Q => ∃ i j, xs = [.int i, .int j] ∧ Q (.int (if j < i then j else i)) H) vMin2 := by
  intro ρ S H xs vs Q hs r h
  match xs, r, h with
  | [x, y], r, h =>
    obtain ⟨v, w, rfl, r1, r2⟩ := r.two
    cases r1 with
    | int i =>
      cases r2 with
      | int j => exact ⟨i, j, rfl, MR.ret hs (.int _) h⟩
      | _ => exact h.elim
    | _ => exact h.elim
  | [], _, h => exact h.elim
  | [x], _, h => cases x <;> exact h.elim
  | x :: y :: z :: r, _, h => cases x <;> cases y <;> exact h.elim
theorem cr_max2 : CRl C E (fun xs H Q => ∃ i j, xs = [.int i, .int j] ∧ Q (.int (if j > i then j else i)) H) vMax2 := by
  intro ρ S H xs vs Q hs r h
  match xs, r, h with
  | [x, y], r, h =>
    obtain ⟨v, w, rfl, r1, r2⟩ := r.two
    cases r1 with
    | int i =>
      cases r2 with
      | int j => exact ⟨i, j, rfl, MR.ret hs (.int _) h⟩
      | _ => exact h.elim
    | _ => exact h.elim
  | [], _, h => exact h.elim
  | [x], _, h => cases x <;> exact h.elim
  | x :: y :: z :: r, _, h => cases x <;> cases y <;> exact h.elim
theorem gmin2 {p : Pos} (hc : X.calm = true) (hg : Gl X "min") (hm : X.mg "min" = none) (ha : PA X (e :: es) (tMA C mr E)) (he : starEach (e :: es) X.env = (false, eval e X.env) :: starEach es X.env := by rfl) (hpl : (backTo pos (starEach es X.env)).any (·.1) = false := by rfl) :
    PE X (.Call (.Name "min" p) (e :: es) [] pos) (tM C (eCl vMin2 mr) E) := gcb cr_min2 (call_min2 hc) hg hm (by decide +kernel) ha (by decide) (by decide) he hpl
theorem gmax2 {p : Pos} (hc : X.calm = true) (hg : Gl X "max") (hm : X.mg "max" = none) (ha : PA X (e :: es) (tMA C mr E)) (he : starEach (e :: es) X.env = (false, eval e X.env) :: starEach es X.env := by rfl) (hpl : (backTo pos (starEach es X.env)).any (·.1) = false := by rfl) :
    PE X (.Call (.Name "max" p) (e :: es) [] pos) (tM C (eCl vMax2 mr) E) := gcb cr_max2 (call_max2 hc) hg hm (by decide +kernel) ha (by decide) (by decide) he hpl

/-! ### list(xs), tuple(xs), sorted(xs) -/
def vList : List CV → M CV := fun xs S => match xs with
  | [.tup ys] => M.new (.lst ys) S
  | [.ref n] => match lstOf S[n]? with
    | some ys => M.new (.lst ys) S
    | none => .stuck
  | _ => .stuck
theorem cr_list : CRl C E (fun xs H Q => ∃ p ys, xs = [.ref p] ∧ (SqL C.K H p ys ∨ SqT C.K H p ys) ∧ ∀ l, H l = none → Q (.ref l) (upd H l (.lst ys))) vList := by
  intro ρ S H xs vs Q hs r h
  match xs, r, h with
  | [x], r, h =>
    obtain ⟨v, rfl, r1⟩ := r.one
    cases r1 with
    | @tup ys us p hp t => exact ⟨p, us, rfl, .inr hp, MR.newL hs t h⟩
    | @ref n p hp =>
      unfold vList at h
      dsimp only at h
      cases q0 : lstOf S[n]? with
      | none =>
        rw [q0] at h
        exact h.elim
      | some ys =>
        rw [q0] at h
        obtain ⟨us, g1, t⟩ := hs.seq hp q0
        exact ⟨p, us, rfl, .inl g1, MR.newL hs t h⟩
    | _ => exact h.elim
  | [], _, h => exact h.elim
  | x :: y :: r, _, h => cases x <;> exact h.elim
theorem glist {p : Pos} (hK : X.K = C.K) (hg : Gl X "list") (hm : X.mg "list" = none) (ha : PA X (e :: es) (tMA C mr E)) (he : starEach (e :: es) X.env = (false, eval e X.env) :: starEach es X.env := by rfl) (hpl : (backTo pos (starEach es X.env)).any (·.1) = false := by rfl) :
    PE X (.Call (.Name "list" p) (e :: es) [] pos) (tM C (eCl vList mr) E) := gct cr_list (by rw [← hK]; exact call_list_of) hg hm (by decide +kernel) ha (by decide) (by decide) he hpl
def vTuple : List CV → M CV := fun xs S => match xs with
  | [.tup ys] => .ok (.tup ys) S
  | [.ref n] => match lstOf S[n]? with
    | some ys => .ok (.tup ys) S
    | none => .stuck
  | _ => .stuck
theorem cr_tuple : CRl C E (fun xs H Q => ∃ p ys, xs = [.ref p] ∧ ((SqL C.K H p ys ∧ ∀ l, H l = none → Q (.ref l) (upd H l (.tup ys))) ∨ (SqT C.K H p ys ∧ Q (.ref p) H))) vTuple := by
  intro ρ S H xs vs Q hs r h
  match xs, r, h with
  | [x], r, h =>
    obtain ⟨v, rfl, r1⟩ := r.one
    cases r1 with
    | @tup ys us p hp t => exact ⟨p, us, rfl, .inr ⟨hp, MR.ret hs (.tup hp t) h⟩⟩
    | @ref n p hp =>
      unfold vTuple at h
      dsimp only at h
      cases q0 : lstOf S[n]? with
      | none =>
        rw [q0] at h
        exact h.elim
      | some ys =>
        rw [q0] at h
        obtain ⟨us, g1, t⟩ := hs.seq hp q0
        exact ⟨p, us, rfl, .inl ⟨g1, MR.newT hs t h⟩⟩
    | _ => exact h.elim
  | [], _, h => exact h.elim
  | x :: y :: r, _, h => cases x <;> exact h.elim
theorem gtuple {p : Pos} (hK : X.K = C.K) (hg : Gl X "tuple") (hm : X.mg "tuple" = none) (ha : PA X (e :: es) (tMA C mr E)) (he : starEach (e :: es) X.env = (false, eval e X.env) :: starEach es X.env := by rfl) (hpl : (backTo pos (starEach es X.env)).any (·.1) = false := by rfl) :
    PE X (.Call (.Name "tuple" p) (e :: es) [] pos) (tM C (eCl vTuple mr) E) := gct cr_tuple (by rw [← hK]; exact call_tuple_of) hg hm (by decide +kernel) ha (by decide) (by decide) he hpl
def sortI (ns : List Int) : List Int := ns.mergeSort fun x y => decide (x ≤ y)
theorem sortI_perm (ns : List Int) : (sortI ns).Perm ns := List.mergeSort_perm _ _
theorem sortI_pair (ns : List Int) : (sortI ns).Pairwise (· ≤ ·) := by
  have h := List.pairwise_mergeSort (le := fun x y : Int => decide (x ≤ y)) (fun a b c h1 h2 => by simp at *; omega) (fun a b => by simp; omega) ns
  exact h.imp fun {a b} q => of_decide_eq_true q
def intOf : CV → Option Int
  | .int i => some i
  | _ => none
theorem mapO_ints : ∀ {xs : List CV} {ns : List Int}, mapO intOf xs = some ns → xs = ns.map CV.int
  | [], ns, e => by
    cases e
    rfl
  | x :: xs, ns, e => by
    unfold mapO at e
    cases e1 : intOf x with
    | none =>
      rw [e1] at e
      cases e
    | some d =>
      rw [e1] at e
      cases e2 : mapO intOf xs with
      | none =>
        rw [e2] at e
        cases e
      | some es =>
        rw [e2] at e
        cases e
        have e3 : x = .int d := by
          cases x <;> cases e1
          rfl
        rw [e3, mapO_ints e2]
        rfl
theorem mapO_of_ints : ∀ ns : List Int, mapO intOf (ns.map CV.int) = some ns
  | [] => rfl
  | n :: ns => by
    rw [List.map_cons]
    unfold mapO
    rw [mapO_of_ints ns]
    rfl
def vSorted : List CV → M CV := fun xs S => match xs with
  | [.ref n] => match lstOf S[n]? with
    | some ys => match mapO intOf ys with
      | some ns => M.new (.lst ((sortI ns).map CV.int)) S
      | none => .stuck
    | none => .stuck
  | _ => .stuck
theorem cr_sorted : CRl C E (rSortedI C.K) vSorted := by
  intro ρ S H xs vs Q hs r h
  match xs, r, h with
  | [x], r, h =>
    obtain ⟨v, rfl, r1⟩ := r.one
    cases r1 with
    | @ref n p hp =>
      unfold vSorted at h
      dsimp only at h
      cases q0 : lstOf S[n]? with
      | none =>
        rw [q0] at h
        exact h.elim
      | some ys =>
        rw [q0] at h
        dsimp only at h
        obtain ⟨us, g1, t⟩ := hs.seq hp q0
        cases q1 : mapO intOf ys with
        | none =>
          rw [q1] at h
          exact h.elim
        | some ns =>
          rw [q1] at h
          have e1 := mapO_ints q1
          subst e1
          have e2 := t.ints_inv
          subst e2
          refine ⟨p, ns, rfl, g1, fun ns' l hp hw hl => ?_⟩
          have e3 : ns' = sortI ns := PySem.W.ksm_same (hp.trans (sortI_perm ns).symm) hw (sortI_pair ns)
          rw [e3]
          exact MR.newL hs (RVs.ints _) h l hl
    | _ => exact h.elim
  | [], _, h => exact h.elim
  | x :: y :: r, _, h => cases x <;> exact h.elim
theorem gsorted {p : Pos} (hK : X.K = C.K) (hg : Gl X "sorted") (hm : X.mg "sorted" = none) (ha : PA X (e :: es) (tMA C mr E)) (he : starEach (e :: es) X.env = (false, eval e X.env) :: starEach es X.env := by rfl) (hpl : (backTo pos (starEach es X.env)).any (·.1) = false := by rfl) :
    PE X (.Call (.Name "sorted" p) (e :: es) [] pos) (tM C (eCl vSorted mr) E) := gcb cr_sorted (by rw [← hK]; exact cr_sortedI) hg hm (by decide +kernel) ha (by decide) (by decide) he hpl

/-! ### isinstance of built-in types -/
def tyn (S : CH) : CV → Option String
  | .non => some "NoneType"
  | .bl _ => some "bool"
  | .int _ => some "int"
  | .str _ => some "str"
  | .tup _ => some "tuple"
  | .ref n => match S[n]? with
    | some (.lst _) => some "list"
    | some (.rol _) => some "list"
    | some (.dct _) => some "dict"
    | _ => none
theorem tyn_ok (hs : SR C ρ S H) {v : CV} {vv : V} {t : String} (r : RV C.K ρ H v vv) (e : tyn S v = some t) : TyX C.K H vv (.type t) := by
  cases r with
  | non => cases e; exact .base .non
  | bl b => cases e; exact .base (.bl b)
  | int b => cases e; exact .base (.int b)
  | str b => cases e; exact .base (.str b)
  | @tup xs vs p hp ht =>
    cases e
    rcases hp with (hp | ⟨o, hp⟩) | ⟨o, its, n, hk, hc, _⟩
    · exact .base (.tup hp)
    · exact .fTuple hp
    · exact .kTuple hk hc
  | @ref n p hp =>
    obtain ⟨o, ho, ro⟩ := hs.cell hp
    unfold tyn at e
    dsimp only at e
    rw [ho] at e
    cases o with
    | lst ys =>
      cases e
      obtain ⟨us, g, _⟩ := ro
      exact .base (.lst g)
    | rol ys =>
      cases e
      obtain ⟨us, g, _⟩ := ro
      rcases g with ⟨ob, g⟩ | ⟨ob, its, n, hk, hc, _⟩
      · exact .base (.frz g)
      · exact .kList hk hc
    | dct kvs =>
      cases e
      obtain ⟨gs, g, _⟩ := ro
      exact .base (.dK g)
    | _ => cases e
/-- a is of the type t or of one of its bases -/
def isTy (t : String) (n : String) : Option Bool := kitB t n
def vIsi (n : String) : CV → M CV := fun v S => match tyn S v with
  | some t => match kitB t n with
    | some k => .ok (.bl k) S
    | none => .stuck
  | none => .stuck
def eIsi (n : String) (a : Env → M CV) : Env → M CV := fun env => (a env).bind (vIsi n)
theorem gisi {n : String} {c : Expr} {p : Pos} (hK : X.K = C.K) (hg : Gl X "isinstance") (hm : X.mg "isinstance" = none) (ha : PE X a (tM C ma E)) (hc : PE X c (tC (.ty n)))
    (he : starEach [a, c] X.env = (false, eval a X.env) :: starEach [c] X.env := by rfl) (he2 : starEach [c] X.env = (false, eval c X.env) :: starEach [] X.env := by rfl) (hpl : (backTo pos (starEach [c] X.env)).any (·.1) = false := by rfl) :
    PE X (.Call (.Name "isinstance" p) [a, c] [] pos) (tM C (eIsi n ma) E) :=
  PE_imp (pe_callB (r := rIsi C.K) (by rw [← hK]; exact call_isi) hg hm (by decide +kernel) (pa_cons ha (pa_cons hc pa_nil he2) he) (by decide) (by decide) he hpl) fun σ H Q ⟨ρ, S, env, hs, hr, h⟩ =>
    ⟨ρ, S, env, hs, hr, h.bind fun v S1 ρ1 H1 vv x1 s1 r1 h1 => by
      unfold vIsi at h1
      cases q0 : tyn S1 v with
      | none =>
        rw [q0] at h1
        exact h1.elim
      | some t =>
        rw [q0] at h1
        dsimp only at h1
        cases q1 : kitB t n with
        | none =>
          rw [q1] at h1
          exact h1.elim
        | some k =>
          rw [q1] at h1
          exact ⟨vv, .ty n, _, _, k, rfl, .ty n, tyn_ok s1 r1 q0, kit_ty q1, MR.ret s1 (.bl _) h1⟩⟩
/-- isinstance(a, (T, U)) -/
def kit2 (t n m : String) : Option Bool := match kitB t n, kitB t m with
  | some k, some l => some (k || l)
  | _, _ => none
def vIsi2 (n m : String) : CV → M CV := fun v S => match tyn S v with
  | some t => match kit2 t n m with
    | some k => .ok (.bl k) S
    | none => .stuck
  | none => .stuck
def eIsi2 (n m : String) (a : Env → M CV) : Env → M CV := fun env => (a env).bind (vIsi2 n m)
theorem gisi2 {n m : String} {c d : Expr} {p p2 : Pos} {x1 : Nat} (hK : X.K = C.K) (hg : Gl X "isinstance") (hm : X.mg "isinstance" = none) (ha : PE X a (tM C ma E)) (hc : PE X c (tC (.ty n))) (hd : PE X d (tC (.ty m)))
    (he : starEach [a, .Tuple [c, d] x1 p2] X.env = (false, eval a X.env) :: starEach [.Tuple [c, d] x1 p2] X.env := by rfl) (he2 : starEach [.Tuple [c, d] x1 p2] X.env = (false, eval (.Tuple [c, d] x1 p2) X.env) :: starEach [] X.env := by rfl) (hpl : (backTo pos (starEach [.Tuple [c, d] x1 p2] X.env)).any (·.1) = false := by rfl)
    (he3 : starEach [c, d] X.env = (false, eval c X.env) :: starEach [d] X.env := by rfl) (he4 : starEach [d] X.env = (false, eval d X.env) :: starEach [] X.env := by rfl) :
    PE X (.Call (.Name "isinstance" p) [a, .Tuple [c, d] x1 p2] [] pos) (tM C (eIsi2 n m ma) E) :=
  PE_imp (pe_callB (r := rIsiT C.K) (by rw [← hK]; exact call_isiT) hg hm (by decide +kernel) (pa_cons ha (pa_cons (pe_tup (pa_cons hc (pa_cons hd pa_nil he4) he3)) pa_nil he2) he) (by decide) (by decide) he hpl) fun σ H Q ⟨ρ, S, env, hs, hr, h⟩ =>
    ⟨ρ, S, env, hs, hr, h.bind fun v S1 ρ1 H1 vv x1 s1 r1 h1 => by
      refine ⟨(by show 2 ≤ sizeLine; decide), fun q hq => ?_⟩
      obtain ⟨s2, x2⟩ := s1.laid (u := .tup [V.ty n, V.ty m]) hq
      unfold vIsi2 at h1
      cases q0 : tyn S1 v with
      | none =>
        rw [q0] at h1
        exact h1.elim
      | some t =>
        rw [q0] at h1
        dsimp only at h1
        unfold kit2 at h1
        cases q1 : kitB t n with
        | none =>
          rw [q1] at h1
          exact h1.elim
        | some k =>
          cases q2 : kitB t m with
          | none =>
            rw [q1, q2] at h1
            exact h1.elim
          | some l =>
            rw [q1, q2] at h1
            refine ⟨vv, q, [.ty n, .ty m], .type t, [.type n, .type m], k || l, rfl, upd_same, .cons (.ty n) (.cons (.ty m) .nil), tyn_ok s2 (r1.up x2) q0, ?_, ?_⟩
            · refine kitAny_cons (kit_ty q1) (fun ek => ?_) (fun ek => by rw [ek]; rfl)
              subst ek
              exact kitAny_cons (b := l) (kit_ty q2) (fun el => by rw [el]; exact kitAny_nil) (fun el => by rw [el]; rfl)
            · exact h1 _ _ _ x2 s2 (.bl _)⟩

/-! ### own defs -/
/-- a def's promise by its mirror -/
def spM (C : Cl) (n : Nat) (m : List CV → M CV) : Sp := fun vs H Q E => vs.length = n ∧ ∃ ρ S args, SR C ρ S H ∧ RVs C.K ρ H args vs ∧ MR C ρ H (RV C.K) (m args S) Q E
theorem gcall {CX : CXT} {k n : Nat} {f : Addr} {fd : FuncData} {ps : List Str} {m : List CV → M CV} {x : Str} {p : Pos} (F : FnOk X.prog X.w X.K X.mg X.base CX k f fd ps (spM C n m)) (hr : Room k X.A) (hg : Gl X x) (hm : X.mg x = some (.ref f)) (hk : PySem.W.keepIn X.K (.ref f) = true) (hb : Binds X.K fd ps []) (hx : Passes CX X E)
    (hl : ∀ args S, m args S ≠ .stuck → args.length = n) (ha : PA X (e :: es) (tMA C mr E)) (hdb : (x == ("__debug__" : Str)) = false := by decide) (he : starEach (e :: es) X.env = (false, eval e X.env) :: starEach es X.env := by rfl) (hpl : (backTo pos (starEach es X.env)).any (·.1) = false := by rfl) :
    PE X (.Call (.Name x p) (e :: es) [] pos) (tM C (eCl m mr) E) :=
  PE_imp (pe_call F hr hg hm hk hb .nil hx ha hdb he hpl) fun σ H Q ⟨ρ, S, env, hs, hr, h⟩ =>
    ⟨ρ, S, env, hs, hr, h.bind fun vs S1 ρ1 H1 ws x1 s1 r1 h1 => by
      refine ⟨?_, ρ1, S1, vs, s1, by rw [List.append_nil]; exact r1, h1⟩
      rw [List.append_nil, ← r1.length]
      exact hl vs S1 fun z => by
        rw [z] at h1
        exact h1⟩
theorem gcall0 {CX : CXT} {k n : Nat} {f : Addr} {fd : FuncData} {ps : List Str} {m : List CV → M CV} {x : Str} {p : Pos} (F : FnOk X.prog X.w X.K X.mg X.base CX k f fd ps (spM C n m)) (hr : Room k X.A) (hg : Gl X x) (hm : X.mg x = some (.ref f)) (hk : PySem.W.keepIn X.K (.ref f) = true) (hb : Binds X.K fd ps []) (hx : Passes CX X E)
    (hl : ∀ args S, m args S ≠ .stuck → args.length = n) (hdb : (x == ("__debug__" : Str)) = false := by decide) :
    PE X (.Call (.Name x p) [] [] pos) (tM C (eCl m aNil) E) :=
  PE_imp (pe_call0 F hr hg hm hk hb .nil hx hdb) fun σ H Q ⟨ρ, S, env, hs, hr, h⟩ => by
      have h1 : MR C ρ H (RV C.K) (m [] S) Q E := h
      refine ⟨?_, ρ, S, [], hs, .nil, h1⟩
      exact hl [] S fun z => by
        rw [z] at h1
        exact h1

/-! ### attributes -/
def vFld (f : String) : CV → M CV := fun x S => match x with
  | .ref n => match S[n]? with
    | some (.ins c fs) => match fs.lookup f with
      | some v => .ok v S
      | none => .stuck
    | _ => .stuck
  | _ => .stuck
def eFld (f : String) (a : Env → M CV) : Env → M CV := fun env => (a env).bind (vFld f)
theorem ofString_inj {s t : String} (h : Str.ofString s = Str.ofString t) : s = t := by
  rw [Str.ofString_eq_toList, Str.ofString_eq_toList] at h
  have h1 : s.toList.map Char.toNat = t.toList.map Char.toNat := by
    have := congrArg (fun z : Str => z.cps.toList) h
    simpa using this
  have h2 : s.toList = t.toList := by
    refine (List.map_inj_right ?_).mp h1
    intro a b e
    exact Char.ext (UInt32.toNat_inj.mp e)
  exact String.toList_inj.mp h2
theorem RF.look {K : PySem.W.Frag} : ∀ {fs : List (String × CV)} {gs : List (Str × V)} {f : String} {v : CV}, RF K ρ H fs gs → fs.lookup f = some v → ∃ w, gs.lookup (Str.ofString f) = some w ∧ RV K ρ H v w
  | [], gs, f, v, _, e => by cases e
  | (g, x) :: fs, [], f, v, h, e => by
    cases h.1
  | (g, x) :: fs, (g', y) :: gs, f, v, ⟨h1, h2⟩, e => by
    simp only [List.map_cons, List.cons.injEq] at h1
    cases h2 with
    | cons r t =>
      rw [List.lookup_cons] at e ⊢
      by_cases q : f = g
      · subst q
        simp only [beq_self_eq_true] at e
        cases e
        have : (Str.ofString f == g') = true := by rw [h1.1]; exact beq_self_eq_true _
        rw [this]
        exact ⟨y, rfl, r⟩
      · have q1 : (f == g) = false := beq_eq_false_iff_ne.mpr q
        rw [q1] at e
        have q2 : (Str.ofString f == g') = false := beq_eq_false_iff_ne.mpr fun z => q (ofString_inj (z.trans h1.1))
        rw [q2]
        exact RF.look ⟨h1.2, t⟩ e
theorem RF.nolook {K : PySem.W.Frag} : ∀ {fs : List (String × CV)} {gs : List (Str × V)} {f : String}, RF K ρ H fs gs → fs.lookup f = none → gs.lookup (Str.ofString f) = none
  | [], [], f, _, e => rfl
  | [], _ :: _, f, h, e => by cases h.1
  | (g, x) :: fs, [], f, h, e => by cases h.1
  | (g, x) :: fs, (g', y) :: gs, f, ⟨h1, h2⟩, e => by
    simp only [List.map_cons, List.cons.injEq] at h1
    cases h2 with
    | cons r t =>
      rw [List.lookup_cons] at e ⊢
      by_cases q : f = g
      · subst q
        simp only [beq_self_eq_true] at e
        cases e
      · have q1 : (f == g) = false := beq_eq_false_iff_ne.mpr q
        rw [q1] at e
        have q2 : (Str.ofString f == g') = false := beq_eq_false_iff_ne.mpr fun z => q (ofString_inj (z.trans h1.1))
        rw [q2]
        exact RF.nolook ⟨h1.2, t⟩ e
/-- a class of which an attribute may be read and stored: every class that bears the name c -/
def FldOk (C : Cl) (f : String) : Prop := ∀ c Ca, C.cls c = some Ca → Cls C.K Ca ∧ NoAttr C.K Ca (Str.ofString f)
theorem gfld {f : String} (hK : X.K = C.K) (hf : FldOk C f) (ha : PE X a (tM C ma E)) (hb : attributeBase a (Str.ofString f) X.env (eval a X.env) = eval a X.env) : PE X (.Attribute a (Str.ofString f) pos) (tM C (eFld f ma) E) :=
  PE_imp (pe_fld ha hb) fun σ H Q ⟨ρ, S, env, hs, he, h⟩ => ⟨ρ, S, env, hs, he, h.bind fun v S1 ρ1 H1 vv x1 s1 r1 h1 => by
    cases r1 with
    | @ref n p hp =>
      obtain ⟨o, ho, ro⟩ := s1.cell hp
      unfold vFld at h1
      dsimp only at h1
      rw [ho] at h1
      cases o with
      | ins c fs =>
        dsimp only at h1
        obtain ⟨Ca, dx, gs, hc, g, t⟩ := ro
        cases q : fs.lookup f with
        | none =>
          rw [q] at h1
          exact h1.elim
        | some w =>
          rw [q] at h1
          obtain ⟨u, q2, ru⟩ := t.look q
          obtain ⟨k1, k2⟩ := hf c Ca hc
          rw [hK]
          exact ⟨p, Ca, dx, gs, u, rfl, g, k1, k2, q2, MR.ret s1 ru h1⟩
      | _ => exact h1.elim
    | _ => exact h1.elim⟩
end
end G
end
section
set_option Elab.async false
set_option linter.all false
set_option maxRecDepth 100000
/-! G: what is walked, targets, statements, comprehensions, defs. -/
namespace G
open PySem L2

/-! ### what is walked -/
inductive CI where
  | lst (n : Nat) | tup (xs : List CV) | rng (lo : Int) (k : Nat) | enL (n : Nat) | enT (xs : List CV)
def CI.len (S : CH) : CI → Option Nat
  | .lst n => (lstOf S[n]?).map List.length
  | .tup xs => some xs.length
  | .rng _ k => some k
  | .enL n => (lstOf S[n]?).map List.length
  | .enT xs => some xs.length
def CI.get (S : CH) (i : Nat) : CI → Option CV
  | .lst n => (lstOf S[n]?).bind fun xs => xs[i]?
  | .tup xs => xs[i]?
  | .rng lo k => if i < k then some (.int (lo + i)) else none
  | .enL n => (lstOf S[n]?).bind fun xs => (xs[i]?).map fun x => .tup [.int i, x]
  | .enT xs => (xs[i]?).map fun x => .tup [.int i, x]
def ItOk (C : Cl) (ρ : List Addr) (H : Hp) (ci : CI) (J : It) : Prop := ∀ (ρ' : List Addr) (S' : CH) (H' : Hp), Ext C.K ρ H ρ' H' → SR C ρ' S' H' →
  (∀ (i : Nat) (c : CV), ci.get S' i = some c → J.go i H' ∧ ∀ x H'', J.yld i H' x H'' → SR C ρ' S' H'' ∧ Ext C.K ρ' H' ρ' H'' ∧ RV C.K ρ' H'' c x) ∧ ∀ i : Nat, ci.len S' = some i → J.stop i H'
def tMI (C : Cl) (m : Env → M CI) (E : XK) : TI := fun σ H R => ∃ ρ S env, SR C ρ S H ∧ RE C.K ρ H env σ ∧ MR C ρ H (ItOk C) (m env S) R E
theorem PI_imp {X : Cx} {tg e : Expr} {t t' : TI} (h : PI X tg e t) (i : ∀ σ H Q, t' σ H Q → t σ H Q) : PI X tg e t' := ⟨fun pins s σ H Q I hw => h.run pins s σ H Q I (i _ _ _ hw)⟩
theorem PI_or {X : Cx} {tg e : Expr} {t t' : TI} (h : PI X tg e t) (h' : PI X tg e t') : PI X tg e (fun σ H Q => t σ H Q ∨ t' σ H Q) := ⟨fun pins s σ H Q I hw => hw.elim (h.run pins s σ H Q I) (h'.run pins s σ H Q I)⟩
theorem MR.retI {C : Cl} {ρ : List Addr} {S : CH} {H : Hp} {E : XK} {ci : CI} {J : It} {R : It → Hp → Prop} (hs : SR C ρ S H) (r : ItOk C ρ H ci J) (h : MR C ρ H (ItOk C) (.ok ci S) R E) : R J H := h ρ H J .refl hs r
theorem itOk_lst {C : Cl} {ρ : List Addr} {H : Hp} {n : Nat} {a : Addr} (ha : ρ[n]? = some a) : ItOk C ρ H (.lst n) (Itl C.K a) := by
  intro ρ' S' H' x s
  have ha' := pre_get x.1 ha
  refine ⟨fun i c e => ?_, fun i e => ?_⟩
  · unfold CI.get at e
    cases q : lstOf S'[n]? with
    | none =>
      simp only [q, Option.bind_none] at e
      cases e
    | some xs =>
      simp only [q, Option.bind_some] at e
      obtain ⟨vs, g, t⟩ := s.seq ha' q
      obtain ⟨v, e2, r⟩ := t.get' e
      refine ⟨⟨vs, v, g, e2⟩, fun y H'' hy => ?_⟩
      obtain ⟨rfl, hy⟩ := hy
      have e3 : v = y := Option.some.inj (e2.symm.trans (hy vs g))
      subst e3
      exact ⟨s, .refl, r⟩
  · unfold CI.len at e
    cases q : lstOf S'[n]? with
    | none =>
      simp only [q, Option.map_none] at e
      cases e
    | some xs =>
      simp only [q, Option.map_some] at e
      cases e
      obtain ⟨vs, g, t⟩ := s.seq ha' q
      exact ⟨vs, g, by rw [t.length]; exact Nat.le_refl _⟩
theorem itOk_tup {C : Cl} {ρ : List Addr} {H : Hp} {xs : List CV} {vs : List V} {p : Addr} (hp : SqT C.K H p vs) (t : RVs C.K ρ H xs vs) : ItOk C ρ H (.tup xs) (Itt C.K p) := by
  intro ρ' S' H' x s
  have hp' := x.2 _ _ hp
  have t' := t.up x
  refine ⟨fun i c e => ?_, fun i e => ?_⟩
  · obtain ⟨v, e2, r⟩ := t'.get' (show xs[i]? = some c from e)
    refine ⟨⟨vs, v, hp', e2⟩, fun y H'' hy => ?_⟩
    obtain ⟨rfl, hy⟩ := hy
    have e3 : v = y := Option.some.inj (e2.symm.trans (hy vs hp'))
    subst e3
    exact ⟨s, .refl, r⟩
  · have e' : xs.length = i := Option.some.inj e
    exact ⟨vs, hp', by rw [← e', t.length]; exact Nat.le_refl _⟩
theorem itOk_rng {C : Cl} {ρ : List Addr} {H : Hp} {lo : Int} {k : Nat} : ItOk C ρ H (.rng lo k) (Itr lo k) := by
  intro ρ' S' H' x s
  refine ⟨fun i c e => ?_, fun i e => ?_⟩
  · unfold CI.get at e
    dsimp only at e
    by_cases hi : i < k
    · rw [if_pos hi] at e
      cases e
      refine ⟨hi, fun y H'' hy => ?_⟩
      obtain ⟨rfl, rfl⟩ := hy
      exact ⟨s, .refl, .int _⟩
    · rw [if_neg hi] at e
      cases e
  · have e' : k = i := Option.some.inj e
    exact Nat.le_of_eq e'
theorem itOk_enL {C : Cl} {ρ : List Addr} {H : Hp} {n : Nat} {a : Addr} (ha : ρ[n]? = some a) : ItOk C ρ H (.enL n) (Ite C.K a) := by
  intro ρ' S' H' x s
  have ha' := pre_get x.1 ha
  refine ⟨fun i c e => ?_, fun i e => ?_⟩
  · unfold CI.get at e
    cases q : lstOf S'[n]? with
    | none =>
      simp only [q, Option.bind_none] at e
      cases e
    | some xs =>
      simp only [q, Option.bind_some] at e
      cases q1 : xs[i]? with
      | none =>
        rw [q1] at e
        cases e
      | some c1 =>
        rw [q1] at e
        cases e
        obtain ⟨vs, g, t⟩ := s.seq ha' q
        obtain ⟨v, e2, r⟩ := t.get' q1
        refine ⟨⟨vs, v, g, e2⟩, fun y H'' hy => ?_⟩
        obtain ⟨T, z, rfl, hT, rfl, hy⟩ := hy
        have e3 : v = z := Option.some.inj (e2.symm.trans (hy vs g))
        subst e3
        obtain ⟨s1, x1⟩ := s.laid (u := .tup [.int (i : Nat), v]) hT
        exact ⟨s1, x1, .tup (SqT.of upd_same) (.cons (.int _) (.cons (r.up x1) .nil))⟩
  · unfold CI.len at e
    cases q : lstOf S'[n]? with
    | none =>
      simp only [q, Option.map_none] at e
      cases e
    | some xs =>
      simp only [q, Option.map_some] at e
      cases e
      obtain ⟨vs, g, t⟩ := s.seq ha' q
      exact ⟨vs, g, by rw [t.length]; exact Nat.le_refl _⟩
section
variable {X : Cx} {C : Cl} {E : XK} {ρ : List Addr} {S : CH} {H : Hp}
variable {e a b tg : Expr} {es : List Expr} {ma mb mc : Env → M CV} {mr : Env → M (List CV)} {pos : Pos}
/-- a list or a tuple -/
def vIt : CV → M CI := fun x S => match x with
  | .tup xs => .ok (.tup xs) S
  | .ref n => match lstOf S[n]? with
    | some _ => .ok (.lst n) S
    | none => .stuck
  | _ => .stuck
def iSeq (a : Env → M CV) : Env → M CI := fun env => (a env).bind vIt
theorem gseq (hK : X.K = C.K) (ha : PE X e (tM C ma E)) : PI X tg e (tMI C (iSeq ma) E) :=
  PI_imp (PI_or (pi_list ha) (pi_tup ha)) fun σ H R ⟨ρ, S, env, hs, he, h⟩ => by
    rw [hK]
    -- which of the two: by the value
    cases q : ma env S with
    | stuck =>
      unfold iSeq M.bind at h
      rw [q] at h
      exact h.elim
    | exc c fs S' =>
      unfold iSeq M.bind at h
      rw [q] at h
      refine .inl ⟨ρ, S, env, hs, he, ?_⟩
      rw [q]
      exact h
    | ok v S1 =>
      unfold iSeq M.bind at h
      rw [q] at h
      dsimp only at h
      cases v with
      | tup xs =>
        refine .inr ⟨ρ, S, env, hs, he, ?_⟩
        rw [q]
        intro ρ1 H1 vv x1 s1 r1
        cases r1 with
        | @tup _ vs p hp t => exact ⟨p, rfl, ⟨vs, hp⟩, MR.retI s1 (itOk_tup hp t) (MR.mono x1 h)⟩
      | ref n =>
        refine .inl ⟨ρ, S, env, hs, he, ?_⟩
        rw [q]
        intro ρ1 H1 vv x1 s1 r1
        cases r1 with
        | @ref _ p hp =>
          unfold vIt at h
          dsimp only at h
          cases q0 : lstOf S1[n]? with
          | none =>
            rw [q0] at h
            exact h.elim
          | some xs =>
            rw [q0] at h
            obtain ⟨vs, g, t⟩ := s1.seq hp q0
            exact ⟨p, rfl, ⟨vs, g⟩, MR.retI s1 (itOk_lst hp) (MR.mono x1 h)⟩
      | _ => exact h.elim
def vR1 : List CV → M CI
  | [.int j] => M.grd (-(2 ^ 62) ≤ j ∧ j < 2 ^ 62) (M.ret (.rng 0 j.toNat))
  | _ => M.stk
def vR2 : List CV → M CI
  | [.int i, .int j] => M.grd (-(2 ^ 62) ≤ i ∧ i < 2 ^ 62 ∧ -(2 ^ 62) ≤ j ∧ j < 2 ^ 62) (M.ret (.rng i (j - i).toNat))
  | _ => M.stk
def iCl (f : List CV → M CI) (r : Env → M (List CV)) : Env → M CI := fun env => (r env).bind f
theorem grange1 {p : Pos} (hg : Gl X "range") (hm : X.mg "range" = none) (ha : PA X [a] (tMA C mr E)) (hs : starEach [a] X.env = [(false, eval a X.env)] := by rfl) : PI X tg (.Call (.Name "range" p) [a] [] pos) (tMI C (iCl vR1 mr) E) :=
  PI_imp (pi_range1 hg hm ha hs) fun σ H R ⟨ρ, S, env, hs, he, h⟩ => ⟨ρ, S, env, hs, he, h.bind fun vs S1 ρ1 H1 ws x1 s1 r1 h1 => by
    match vs, r1, h1 with
    | [x], r1, h1 =>
      obtain ⟨v, rfl, r2⟩ := r1.one
      cases r2 with
      | int j =>
        obtain ⟨hz, h1⟩ := MR.grd h1
        exact ⟨j, rfl, hz.1, hz.2, MR.retI s1 itOk_rng h1⟩
      | _ => exact h1.elim
    | [], _, h1 => exact h1.elim
    | x :: y :: r, _, h1 => cases x <;> exact h1.elim⟩
theorem grange2 {p : Pos} (hg : Gl X "range") (hm : X.mg "range" = none) (ha : PA X [a, b] (tMA C mr E)) (hs : starEach [a, b] X.env = [(false, eval a X.env), (false, eval b X.env)] := by rfl) (hs2 : starEach [b] X.env = [(false, eval b X.env)] := by rfl) :
    PI X tg (.Call (.Name "range" p) [a, b] [] pos) (tMI C (iCl vR2 mr) E) :=
  PI_imp (pi_range2 hg hm ha hs hs2) fun σ H R ⟨ρ, S, env, hs, he, h⟩ => ⟨ρ, S, env, hs, he, h.bind fun vs S1 ρ1 H1 ws x1 s1 r1 h1 => by
    match vs, r1, h1 with
    | [x, y], r1, h1 =>
      obtain ⟨v, w, rfl, r2, r3⟩ := r1.two
      cases r2 with
      | int i =>
        cases r3 with
        | int j =>
          obtain ⟨hz, h1⟩ := MR.grd h1
          exact ⟨i, j, rfl, hz, MR.retI s1 itOk_rng h1⟩
        | _ => exact h1.elim
      | _ => exact h1.elim
    | [], _, h1 => exact h1.elim
    | [x], _, h1 => cases x <;> exact h1.elim
    | x :: y :: z :: r, _, h1 => cases x <;> cases y <;> exact h1.elim⟩

/-! ### targets -/
theorem wipe_get (σ : L2.St) (j : Nat) : ∀ vs : List Nat, (wipe σ vs)[j]? = if j ∈ vs ∧ j < σ.length then some none else if j ∈ vs then none else σ[j]?
  | [] => by
    unfold wipe
    simp
  | v :: vs => by
    unfold wipe
    rw [List.getElem?_set, wipe_length, wipe_get σ j vs]
    by_cases h : v = j
    · subst h
      by_cases hv : v < σ.length
      · simp [hv]
      · simp [hv]
    · have h' : j ≠ v := fun e => h e.symm
      simp [h, h']
theorem wipe_set {σ : L2.St} {i : Nat} {x : Option V} {vs : List Nat} (h : i ∈ vs) : wipe (σ.set i x) vs = wipe σ vs := by
  refine List.ext_getElem? fun j => ?_
  rw [wipe_get, wipe_get, List.length_set]
  by_cases hj : j ∈ vs
  · simp [hj]
  · have hne : i ≠ j := fun e => hj (e ▸ h)
    simp [hj, List.getElem?_set_ne hne]
theorem wipe_wipe (σ : L2.St) (vs : List Nat) : wipe (wipe σ vs) vs = wipe σ vs := by
  refine List.ext_getElem? fun j => ?_
  rw [wipe_get, wipe_get, wipe_length]
  by_cases hj : j ∈ vs <;> simp [hj]
def wipeE (env : Env) : List Nat → Env
  | [] => env
  | v :: vs => (wipeE env vs).set v none
theorem Paired.set' {α β : Type} {F : α → β → Prop} {x : α} {y : β} (h : F x y) : ∀ {l : List α} {l' : List β} (i : Nat), Paired F l l' → Paired F (l.set i x) (l'.set i y)
  | _, _, _, .nil => .nil
  | _, _, 0, .cons _ t => .cons h t
  | _, _, i + 1, .cons r t => .cons r (Paired.set' h i t)
theorem RE.wipe {K : PySem.W.Frag} {env : Env} {σ : L2.St} (h : RE K ρ H env σ) : ∀ vs : List Nat, RE K ρ H (wipeE env vs) (L2.wipe σ vs)
  | [] => h
  | v :: vs => Paired.set' (show RO K ρ H none none from trivial) v (RE.wipe h vs)
abbrev RG (C : Cl) (vs : List Nat) (σ0 : L2.St) : List Addr → Hp → Env → L2.St → Prop := fun ρ H env σ => RE C.K ρ H env σ ∧ wipe σ vs = wipe σ0 vs
def tMG (C : Cl) (vs : List Nat) (m : CV → Env → M Env) (E : XK) : TG := fun v σ H Q => ∃ ρ S env c, SR C ρ S H ∧ RE C.K ρ H env σ ∧ RV C.K ρ H c v ∧ MR C ρ H (RG C vs σ) (m c env S) Q E
def tMGs (C : Cl) (vs : List Nat) (m : List CV → Env → M Env) (E : XK) : TGs := fun v σ H Q => ∃ ρ S env c, SR C ρ S H ∧ RE C.K ρ H env σ ∧ RVs C.K ρ H c v ∧ MR C ρ H (RG C vs σ) (m c env S) Q E
theorem PG_imp {X : Cx} {e : Expr} {t t' : TG} (h : PG X e t) (i : ∀ v σ H Q, t' v σ H Q → t v σ H Q) : PG X e t' := ⟨fun pins s σ H v u Q I r hw => h.run pins s σ H v u Q I r (i _ _ _ _ hw)⟩
theorem PGs_imp {X : Cx} {e : List Expr} {t t' : TGs} (h : PGs X e t) (i : ∀ v σ H Q, t' v σ H Q → t v σ H Q) : PGs X e t' := ⟨fun pins s σ H v u Q I r hw => h.run pins s σ H v u Q I r (i _ _ _ _ hw)⟩
variable {vs : List Nat}
def gN (i : Nat) : CV → Env → M Env := fun c env => M.ret (env.set i (some c))
theorem tgname {i : Nat} (h : PG X e (gName i)) (hi : i ∈ vs) : PG X e (tMG C vs (gN i) E) := PG_imp h fun v σ H Q ⟨ρ, S, env, c, hs, he, r, h⟩ =>
  show Q (σ.set i (some v)) H from MR.mono .refl h ρ H _ .refl hs ⟨he.set r i, wipe_set hi⟩
def gsNil : List CV → Env → M Env := fun xs env => match xs with
  | [] => M.ret env
  | _ => M.stk
def gsCons (t : CV → Env → M Env) (u : List CV → Env → M Env) : List CV → Env → M Env := fun xs env => match xs with
  | x :: r => (t x env).bind fun env1 => u r env1
  | [] => M.stk
theorem tgnil : PGs X [] (tMGs C vs gsNil E) := PGs_imp pgs_nil fun v σ H Q ⟨ρ, S, env, c, hs, he, r, h⟩ => by
  cases c with
  | nil =>
    cases r
    exact ⟨rfl, MR.mono .refl h ρ H _ .refl hs ⟨he, rfl⟩⟩
  | cons _ _ => exact h.elim
variable {mg1 : CV → Env → M Env} {mgs : List CV → Env → M Env}
theorem tgcons (h1 : PG X e (tMG C vs mg1 E)) (h2 : PGs X es (tMGs C vs mgs E)) (hs : (assignEach (e :: es) X.env).map (·.2) = assign e X.env :: (assignEach es X.env).map (·.2) := by rfl) : PGs X (e :: es) (tMGs C vs (gsCons mg1 mgs) E) := PGs_imp (pgs_cons h1 h2 hs) fun v σ H Q ⟨ρ, S, env, c, hs, he, r, h⟩ => by
  cases c with
  | nil => exact h.elim
  | cons x r' =>
    cases r with
    | cons rx rr =>
      refine ⟨_, _, rfl, ρ, S, env, x, hs, he, rx, h.bind fun env1 S1 ρ1 H1 σ1 x1 s1 r1 h1 => ⟨ρ1, S1, env1, r', s1, r1.1, rr.up x1, ?_⟩⟩
      obtain ⟨re, rw1⟩ := r1
      -- the end's wipe is that of the beginning
      cases q : mgs r' env1 S1 with
      | ok env2 S2 =>
        unfold RG at h1 ⊢
        rw [q] at h1
        exact fun ρ2 H2 σ2 x2 s2 r2 => h1 ρ2 H2 σ2 x2 s2 ⟨r2.1, r2.2.trans rw1⟩
      | exc c fs S' =>
        rw [q] at h1
        exact h1
      | stuck =>
        rw [q] at h1
        exact h1
def gT (n : Nat) (t : List CV → Env → M Env) : CV → Env → M Env := fun c env => match c with
  | .tup xs => M.grd (xs.length = n) (t xs env)
  | _ => M.stk
theorem tgtup {k n : Nat} (hK : X.K = C.K) (hc : X.calm = true) (h : PGs X es (tMGs C vs mgs E)) (hn : (assignEach es X.env).length = n := by rfl) (hst : (assignEach es X.env).findIdx? (·.1) = none := by rfl) : PG X (.Tuple es k pos) (tMG C vs (gT n mgs) E) := PG_imp (pg_tup hc h hn hst) fun v σ H Q ⟨ρ, S, env, c, hs, he, r, h⟩ => by
  cases r with
  | @tup xs us p hp t =>
    obtain ⟨hz, h⟩ := MR.grd h
    exact ⟨p, us, rfl, by rw [hK]; exact hp, by rw [← t.length]; exact hz, ρ, S, env, xs, hs, he, t, h⟩
  | _ => exact h.elim
/-- o[i] = v, a list -/
def vSet (v o i : CV) : M Unit := fun S => match o, i with
  | .ref n, .int k => match S[n]? with
    | some (.lst xs) => match ixN xs.length k with
      | some j => .ok () (S.set n (.lst (xs.set j v)))
      | none => .stuck
    | _ => .stuck
  | _, _ => .stuck
def gSet (o i : Env → M CV) : CV → Env → M Env := fun v env => (o env).bind fun x => (i env).bind fun y => (vSet v x y).bind fun _ => M.ret env
theorem tgsub {o i : Expr} {mo mi : Env → M CV} (ho : PE X o (tM C mo E)) (hi : PE X i (tM C mi E))
    (ha : ∀ v, assign (.Subscript o i pos) X.env v = (do
      let ov ← holding [v] (eval o X.env)
      let iv ← holding [v, ov] (eval i X.env)
      standAt pos
      holding [v, ov, iv] (setItem ov iv v)
      release [v, ov, iv] []) := by intro _; rfl) : PG X (.Subscript o i pos) (tMG C vs (gSet mo mi) E) := PG_imp (pg_sub ho hi set_list ha) fun v σ H Q ⟨ρ, S, env, c, hs, he, r, h⟩ =>
  ⟨ρ, S, env, hs, he, h.bind fun x S1 ρ1 H1 xx x1 s1 r1 h1 => ⟨ρ1, S1, env, s1, he.up x1, h1.bind fun y S2 ρ2 H2 yy x2 s2 r2 h2 => by
    have r1' := r1.up x2
    have rc := r.up (x1.trans x2)
    unfold M.bind vSet at h2
    cases r1' with
    | @ref n p hp =>
      cases r2 with
      | int k =>
        dsimp only at h2
        obtain ⟨ob, hob, ro⟩ := s2.cell hp
        rw [hob] at h2
        cases ob with
        | lst xs =>
          dsimp only at h2
          obtain ⟨us, g, t⟩ := ro
          cases q : ixN xs.length k with
          | none =>
            rw [q] at h2
            exact h2.elim
          | some j =>
            rw [q] at h2
            obtain ⟨s3, x3⟩ := s2.write (u := .lst (us.set j v)) (o := .lst (xs.set j c)) hob rfl rfl hp g rfl fun x' => ⟨_, upd_same, (RVs.set rc j t).up x'⟩
            refine ⟨p, us, k, j, rfl, rfl, g, by rw [← t.length]; exact q, ?_⟩
            exact h2 ρ2 _ σ x3 s3 ⟨he.up ((x1.trans x2).trans x3), rfl⟩
        | _ => exact h2.elim
      | _ => exact h2.elim
    | _ => cases r2 <;> exact h2.elim⟩⟩

/-! ### statements -/
variable {st : Stmt} {rest body : List Stmt} {sa sb : Env → M Fl}
theorem MF.nx {env : Env} {σ : L2.St} {D : Ends} (hs : SR C ρ S H) (he : RE C.K ρ H env σ) (h : MF C ρ H (M.ret (Fl.nx env) S) D E) : D.nx σ H := h ρ H σ .refl hs he
theorem MF.seq {m : M Fl} {k : Fl → M Fl} {D D' : Ends} (h : MF C ρ H (m.bind k S) D E)
    (hn : ∀ env S1 ρ1 H1 σ1, Ext C.K ρ H ρ1 H1 → SR C ρ1 S1 H1 → RE C.K ρ1 H1 env σ1 → MF C ρ1 H1 (k (.nx env) S1) D E → D'.nx σ1 H1)
    (hb : ∀ env S1 ρ1 H1 σ1, Ext C.K ρ H ρ1 H1 → SR C ρ1 S1 H1 → RE C.K ρ1 H1 env σ1 → MF C ρ1 H1 (k (.brk env) S1) D E → D'.bk σ1 H1)
    (hc : ∀ env S1 ρ1 H1 σ1, Ext C.K ρ H ρ1 H1 → SR C ρ1 S1 H1 → RE C.K ρ1 H1 env σ1 → MF C ρ1 H1 (k (.ct env) S1) D E → D'.ct σ1 H1)
    (hr : ∀ v S1 ρ1 H1 b, Ext C.K ρ H ρ1 H1 → SR C ρ1 S1 H1 → RV C.K ρ1 H1 v b → MF C ρ1 H1 (k (.ret v) S1) D E → D'.rt b H1) : MF C ρ H (m S) D' E := by
  unfold M.bind at h
  cases e : m S with
  | ok f S1 =>
    rw [e] at h
    dsimp only at h
    cases f with
    | nx env => exact fun ρ1 H1 σ1 x1 s1 r1 => hn env S1 ρ1 H1 σ1 x1 s1 r1 (h.mono x1)
    | brk env => exact fun ρ1 H1 σ1 x1 s1 r1 => hb env S1 ρ1 H1 σ1 x1 s1 r1 (h.mono x1)
    | ct env => exact fun ρ1 H1 σ1 x1 s1 r1 => hc env S1 ρ1 H1 σ1 x1 s1 r1 (h.mono x1)
    | ret v => exact fun ρ1 H1 σ1 x1 s1 r1 => hr v S1 ρ1 H1 σ1 x1 s1 r1 (h.mono x1)
  | exc c fs S' =>
    rw [e] at h
    exact h
  | stuck =>
    rw [e] at h
    exact h
def sNil : Env → M Fl := fun env => M.ret (.nx env)
def sSeq (a b : Env → M Fl) : Env → M Fl := fun env => (a env).bind fun f => match f with
  | .nx env1 => b env1
  | f => M.ret f
theorem xnil : PSs X [] (tMS C sNil E) := PSs_imp pss_nil fun D σ H ⟨ρ, S, env, hs, he, h⟩ => h.nx hs he
theorem xcons (h1 : PS X st (tMS C sa E)) (h2 : PSs X rest (tMS C sb E)) : PSs X (st :: rest) (tMS C (sSeq sa sb) E) := PSs_imp (pss_cons h1 h2) fun D σ H ⟨ρ, S, env, hs, he, h⟩ =>
  ⟨ρ, S, env, hs, he, h.seq (fun env S1 ρ1 H1 σ1 x1 s1 r1 h1 => ⟨ρ1, S1, env, s1, r1, h1⟩) (fun env S1 ρ1 H1 σ1 x1 s1 r1 h1 => h1 ρ1 H1 σ1 .refl s1 r1) (fun env S1 ρ1 H1 σ1 x1 s1 r1 h1 => h1 ρ1 H1 σ1 .refl s1 r1) (fun v S1 ρ1 H1 b x1 s1 r1 h1 => h1 ρ1 H1 b .refl s1 r1)⟩
theorem xone (h1 : PS X st (tMS C sa E)) : PSs X [st] (tMS C sa E) := pss_one h1
theorem xpass : PS X (.Pass pos) (tMS C sNil E) := PS_imp ps_pass fun D σ H ⟨ρ, S, env, hs, he, h⟩ => h.nx hs he
def sBrk : Env → M Fl := fun env => M.ret (.brk env)
def sCt : Env → M Fl := fun env => M.ret (.ct env)
theorem xbreak : PS X (.Break pos) (tMS C sBrk E) := PS_imp ps_break fun D σ H ⟨ρ, S, env, hs, he, h⟩ => h ρ H σ .refl hs he
theorem xcont : PS X (.Continue pos) (tMS C sCt E) := PS_imp ps_continue fun D σ H ⟨ρ, S, env, hs, he, h⟩ => h ρ H σ .refl hs he
def sExpr (a : Env → M CV) : Env → M Fl := fun env => (a env).bind fun _ => M.ret (.nx env)
theorem xexpr (ha : PE X e (tM C ma E)) (hs : swapsWith e none pos.line X.env = pure false := by rfl) : PS X (.Expr e pos) (tMS C (sExpr ma) E) := PS_imp (ps_expr ha hs) fun D σ H ⟨ρ, S, env, hs, he, h⟩ =>
  ⟨ρ, S, env, hs, he, h.bind fun v S1 ρ1 H1 vv x1 s1 r1 h1 => h1.nx s1 (he.up x1)⟩
def sRet (a : Env → M CV) : Env → M Fl := fun env => (a env).bind fun v => M.ret (.ret v)
theorem xret (ha : PE X e (tM C ma E)) : PS X (.Return (some e) pos) (tMS C (sRet ma) E) := PS_imp (ps_ret ha) fun D σ H ⟨ρ, S, env, hs, he, h⟩ =>
  ⟨ρ, S, env, hs, he, h.bind fun v S1 ρ1 H1 vv x1 s1 r1 h1 => h1 ρ1 H1 vv .refl s1 r1⟩
def sRetN : Env → M Fl := fun _ => M.ret (.ret .non)
theorem xretN : PS X (.Return none pos) (tMS C sRetN E) := PS_imp ps_retN fun D σ H ⟨ρ, S, env, hs, he, h⟩ => h ρ H .non .refl hs .non
def sIf (c : Env → M Bool) (a b : Env → M Fl) : Env → M Fl := fun env => (c env).bind fun k => match k with
  | true => a env
  | false => b env
theorem xif {c : Expr} {a b : List Stmt} {mt : Env → M Bool} (hc : PT X c (tMB C mt E)) (ha : PSs X a (tMS C sa E)) (hb : PSs X b (tMS C sb E)) : PS X (.If c a b pos) (tMS C (sIf mt sa sb) E) := PS_imp (ps_if hc ha hb) fun D σ H ⟨ρ, S, env, hs, he, h⟩ =>
  ⟨ρ, S, env, hs, he, h.bind fun k S1 ρ1 H1 kk x1 s1 r1 h1 => by
    subst r1
    cases k with
    | true => exact iteT ⟨ρ1, S1, env, s1, he.up x1, h1⟩
    | false => exact iteF ⟨ρ1, S1, env, s1, he.up x1, h1⟩⟩
def sAsg (a : Env → M CV) (g : CV → Env → M Env) : Env → M Fl := fun env => (a env).bind fun v => (g v env).bind fun env1 => M.ret (.nx env1)
theorem asgI {g : TG} {D : Ends} {σ : L2.St} (hg : ∀ v σ H Q, tMG C vs mg1 E v σ H Q → g v σ H Q) (h : tMS C (sAsg ma mg1) E D σ H) : tAsg (tM C ma E) g D σ H := by
  obtain ⟨ρ, S, env, hs, he, h⟩ := h
  exact ⟨ρ, S, env, hs, he, h.bind fun v S1 ρ1 H1 vv x1 s1 r1 h1 => hg _ _ _ _ ⟨ρ1, S1, env, v, s1, he.up x1, r1, h1.bind fun env1 S2 ρ2 H2 σ2 x2 s2 r2 h2 => h2.nx s2 r2.1⟩⟩
theorem xasg (ha : PE X e (tM C ma E)) (hg : PG X tg (tMG C vs mg1 E)) (hs : swapsWithSole [tg] e pos.line X.env = pure false := by rfl) (hw : swappedStores [tg] e X.env = pure none := by rfl)
    (h1 : (assignEach [tg] X.env).map (·.2) = [assign tg X.env] := by rfl) : PS X (.Assign [tg] e pos) (tMS C (sAsg ma mg1) E) := PS_imp (ps_asg ha hg hs hw h1) fun D σ H h => asgI (fun _ _ _ _ q => q) h
/-- x = e -/
theorem xset {i : Nat} (h : PS X st (tAsg (tM C ma E) (gName i))) : PS X st (tMS C (sAsg ma (gN i)) E) := PS_imp h fun D σ H h => asgI (vs := [i]) (g := gName i) (fun v σ H Q ⟨ρ, S, env, c, hs, he, r, h⟩ =>
  show Q (σ.set i (some v)) H from MR.mono .refl h ρ H _ .refl hs ⟨he.set r i, wipe_set (by simp)⟩) h
/-- code that is not to be reached -/
def sStk : Env → M Fl := fun _ => M.stk
theorem xnever : PS X st (tMS C sStk E) := PS_imp ps_never fun D σ H ⟨ρ, S, env, hs, he, h⟩ => h.elim
/-- for -/
def forGo (ci : CI) (g : CV → Env → M Env) (body : Env → M Fl) : Nat → Nat → Env → M Fl
  | 0, i, env => fun S => if ci.len S = some i then .ok (.nx env) S else .stuck
  | k + 1, i, env => fun S => match ci.get S i with
    | some c => ((g c env).bind fun env1 => (body env1).bind fun f => match f with
      | .nx env2 => forGo ci g body k (i + 1) env2
      | .ct env2 => forGo ci g body k (i + 1) env2
      | .brk env2 => M.ret (.nx env2)
      | .ret v => M.ret (.ret v)) S
    | none => .stuck
def sFor (it : Env → M CI) (g : CV → Env → M Env) (body : Env → M Fl) : Env → M Fl := fun env => (it env).bind fun ci S => match ci.len S with
  | some k => forGo ci g body k 0 env S
  | none => .stuck
theorem xfor {iter : Expr} {mi : Env → M CI} (hp : PassesOwn (model X.prog X.w) X.A X.env X.xe) (hc : X.calm = true) (hi : PI X tg iter (tMI C mi E)) (hg : PG X tg (tMG C vs mg1 E)) (hb : PSs X body (tMS C sb E)) (hs : ∀ x, foldedSetIterable iter X.env x = pure x := by intro _; rfl) :
    PS X (.For tg iter body [] pos) (tMS C (sFor mi mg1 sb) E) := PS_imp (ps_for hp hc hi hg hb hs) fun D σ H ⟨ρ, S, env, hs, he, h⟩ =>
  ⟨ρ, S, env, hs, he, h.bind fun ci S1 ρ1 H1 J x1 s1 r1 h1 => by
    cases q : ci.len S1 with
    | none =>
      rw [q] at h1
      exact h1.elim
    | some k =>
      rw [q] at h1
      refine ⟨fun i m σ H => ∃ ρ S env, SR C ρ S H ∧ RE C.K ρ H env σ ∧ Ext C.K ρ1 H1 ρ H ∧ MF C ρ H (forGo ci mg1 sb m i env S) D E, ⟨k, ρ1, S1, env, s1, he.up x1, .refl, h1⟩, ?_⟩
      rintro i m σ2 H2 ⟨ρ2, S2, env2, s2, e2, x2, h2⟩
      obtain ⟨it1, it2⟩ := r1 ρ2 S2 H2 x2 s2
      cases m with
      | zero =>
        unfold forGo at h2
        by_cases hl : ci.len S2 = some i
        · rw [if_pos hl] at h2
          exact .inl ⟨it2 i hl, MF.nx s2 e2 h2⟩
        · rw [if_neg hl] at h2
          exact h2.elim
      | succ m =>
        unfold forGo at h2
        cases hg : ci.get S2 i with
        | none =>
          rw [hg] at h2
          exact h2.elim
        | some c =>
          rw [hg] at h2
          obtain ⟨go, yl⟩ := it1 i c hg
          refine .inr ⟨go, fun σ' H' => ∃ ρ S env, SR C ρ S H' ∧ RE C.K ρ H' env σ' ∧ Ext C.K ρ1 H1 ρ H' ∧ MF C ρ H' (forGo ci mg1 sb m (i + 1) env S) D E, fun σ' H' h' => ⟨m, Nat.lt_succ_self _, h'⟩, fun x H3 hy => ?_⟩
          obtain ⟨s3, x3, r3⟩ := yl x H3 hy
          refine ⟨ρ2, S2, env2, c, s3, e2.up x3, r3, MF.bind (MF.mono x3 h2) fun env4 S4 ρ4 H4 σ4 x4 s4 r4 h4 => ⟨ρ4, S4, env4, s4, r4.1, ?_⟩⟩
          have xx := x2.trans (x3.trans x4)
          exact h4.seq (fun env5 S5 ρ5 H5 σ5 x5 s5 r5 h5 => ⟨ρ5, S5, env5, s5, r5, xx.trans x5, h5⟩) (fun env5 S5 ρ5 H5 σ5 x5 s5 r5 h5 => h5.nx s5 r5) (fun env5 S5 ρ5 H5 σ5 x5 s5 r5 h5 => ⟨ρ5, S5, env5, s5, r5, xx.trans x5, h5⟩) (fun v S5 ρ5 H5 b x5 s5 r5 h5 => h5 ρ5 H5 b .refl s5 r5)⟩
/-- while, by fuel -/
def whGo (c : Env → M Bool) (body : Env → M Fl) : Nat → Env → M Fl
  | 0, _ => M.stk
  | n + 1, env => (c env).bind fun k => match k with
    | false => M.ret (.nx env)
    | true => (body env).bind fun f => match f with
      | .nx env2 => whGo c body n env2
      | .ct env2 => whGo c body n env2
      | .brk env2 => M.ret (.nx env2)
      | .ret v => M.ret (.ret v)
def sWhile (n : Nat) (c : Env → M Bool) (body : Env → M Fl) : Env → M Fl := whGo c body n
theorem xwhile {c : Expr} {mt : Env → M Bool} (n : Nat) (hp : PassesOwn (model X.prog X.w) X.A X.env X.xe) (hc : PT X c (tMB C mt E)) (hb : PSs X body (tMS C sb E)) : PS X (.While c body [] pos) (tMS C (sWhile n mt sb) E) := PS_imp (ps_while hp hc hb) fun D σ H ⟨ρ, S, env, hs, he, h⟩ => by
  refine ⟨fun m σ H => ∃ ρ S env, SR C ρ S H ∧ RE C.K ρ H env σ ∧ MF C ρ H (whGo mt sb m env S) D E, ⟨n, ρ, S, env, hs, he, h⟩, ?_⟩
  rintro m σ2 H2 ⟨ρ2, S2, env2, s2, e2, h2⟩
  cases m with
  | zero => exact h2.elim
  | succ m =>
    unfold whGo at h2
    refine ⟨ρ2, S2, env2, s2, e2, MF.bind h2 fun k S3 ρ3 H3 kk x3 s3 r3 h3 => ?_⟩
    subst r3
    cases k with
    | false => exact iteF (MF.nx s3 (e2.up x3) h3)
    | true =>
      refine iteT ⟨fun σ' H' => ∃ ρ S env, SR C ρ S H' ∧ RE C.K ρ H' env σ' ∧ MF C ρ H' (whGo mt sb m env S) D E, fun σ' H' h' => ⟨m, Nat.lt_succ_self _, h'⟩, ρ3, S3, env2, s3, e2.up x3, ?_⟩
      exact MF.seq h3 (fun env5 S5 ρ5 H5 σ5 x5 s5 r5 h5 => ⟨ρ5, S5, env5, s5, r5, h5⟩) (fun env5 S5 ρ5 H5 σ5 x5 s5 r5 h5 => h5.nx s5 r5) (fun env5 S5 ρ5 H5 σ5 x5 s5 r5 h5 => ⟨ρ5, S5, env5, s5, r5, h5⟩) (fun v S5 ρ5 H5 b x5 s5 r5 h5 => h5 ρ5 H5 b .refl s5 r5)

/-! ### methods of built-in types -/
/-- xs.append(v) -/
def vApp (v : CV) : CV → M CV := fun x S => match x with
  | .ref n => match S[n]? with
    | some (.lst xs) => M.grd (xs.length < sizeLine) (fun S => .ok .non (S.set n (.lst (xs ++ [v])))) S
    | _ => .stuck
  | _ => .stuck
def isLst : CV → M Unit := fun x S => match x with
  | .ref n => match S[n]? with
    | some (.lst _) => .ok () S
    | _ => .stuck
  | _ => .stuck
def eApp (o : Env → M CV) (a : Env → M CV) : Env → M CV := fun env => (o env).bind fun x => (isLst x).bind fun _ => (a env).bind fun v => vApp v x
theorem isLst_ok {x : CV} {xx : V} {k : Unit → M CV} {Q : VK} (hs : SR C ρ S H) (r : RV C.K ρ H x xx) (h : MR C ρ H (RV C.K) ((isLst x).bind k S) Q E) : tyV C.K "list" xx H ∧ MR C ρ H (RV C.K) (k () S) Q E := by
  unfold M.bind isLst at h
  cases r with
  | @ref n p hp =>
    obtain ⟨o, ho, ro⟩ := hs.cell hp
    dsimp only at h
    rw [ho] at h
    cases o with
    | lst xs =>
      obtain ⟨us, g, t⟩ := ro
      exact ⟨.inl ⟨rfl, us, SqL.of g⟩, h⟩
    | _ => exact h.elim
  | _ => exact h.elim
theorem app_ok {x v : CV} {xx vv : V} {Q : VK} (hs : SR C ρ S H) (r : RV C.K ρ H x xx) (rv : RV C.K ρ H v vv) (h : MR C ρ H (RV C.K) (vApp v x S) Q E) : rAppend xx [vv] H Q := by
  unfold vApp at h
  cases r with
  | @ref n p hp =>
    obtain ⟨o, ho, ro⟩ := hs.cell hp
    dsimp only at h
    rw [ho] at h
    cases o with
    | lst xs =>
      obtain ⟨hz, h⟩ := MR.grd h
      obtain ⟨us, g, t⟩ := ro
      obtain ⟨s3, x3⟩ := hs.write (u := .lst (us ++ [vv])) (o := .lst (xs ++ [v])) ho rfl rfl hp g rfl fun x' => ⟨_, upd_same, (t.append (.cons rv .nil)).up x'⟩
      exact ⟨p, us, vv, rfl, rfl, g, by rw [← t.length]; exact hz, h ρ _ .non x3 s3 .non⟩
    | _ => exact h.elim
  | _ => exact h.elim
theorem gapp {h : PE X e (tBM C.K "list" rAppend (tM C ma E) (tMA C (aCons mb aNil) E))} : PE X e (tM C (eApp ma mb) E) := PE_imp h fun σ H Q ⟨ρ, S, env, hs, he, h⟩ =>
  ⟨ρ, S, env, hs, he, h.bind fun x S1 ρ1 H1 xx x1 s1 r1 h1 => by
    obtain ⟨ty, h1⟩ := isLst_ok s1 r1 h1
    refine ⟨ty, ρ1, S1, env, s1, he.up x1, ?_⟩
    have h2 : MR C ρ1 H1 (RV C.K) (((aCons mb aNil) env).bind (fun l => match l with
      | [v] => vApp v x
      | _ => M.stk) S1) Q E := by
      unfold aCons aNil
      rw [M.bind_bind]
      exact h1
    exact h2.bind fun l S2 ρ2 H2 ll x2 s2 r2 h3 => by
      match l, r2, h3 with
      | [v], r2, h3 =>
        obtain ⟨vv, rfl, rv⟩ := r2.one
        exact app_ok s2 (r1.up x2) rv h3
      | [], _, h3 => exact h3.elim
      | _ :: _ :: _, _, h3 => exact h3.elim⟩
end
end G
end
section
set_option Elab.async false
set_option linter.all false
set_option maxRecDepth 100000
/-! G: list comprehensions; defs; the law's end. -/
namespace G
open PySem L2
section
variable {X : Cx} {C : Cl} {E : XK} {ρ : List Addr} {S : CH} {H : Hp}
variable {e tg : Expr} {pos : Pos} {vs : List Nat}
/-- nothing may be raised in it -/
def M.nox {α : Type} (m : M α) : M α := fun S => match m S with
  | .ok a S' => .ok a S'
  | _ => .stuck
theorem MR.bindN {α β γ δ : Type} {R : List Addr → Hp → α → β → Prop} {R' : List Addr → Hp → γ → δ → Prop} {m : M α} {f : α → M γ} {Q : δ → Hp → Prop} {Q' : β → Hp → Prop}
    (h : MR C ρ H R' (m.nox.bind f S) Q E) (k : ∀ a S1 ρ1 H1 b, Ext C.K ρ H ρ1 H1 → SR C ρ1 S1 H1 → R ρ1 H1 a b → MR C ρ1 H1 R' (f a S1) Q E → Q' b H1) : MR C ρ H R (m S) Q' E0 := by
  unfold M.bind M.nox at h
  cases e : m S with
  | ok a S1 =>
    rw [e] at h
    exact fun ρ1 H1 b x1 s1 r1 => k a S1 ρ1 H1 b x1 s1 r1 (h.mono x1)
  | exc c fs S' =>
    rw [e] at h
    exact h.elim
  | stuck =>
    rw [e] at h
    exact h.elim
/-- one turn behind another; n: the list that is made -/
def lcGo (ci : CI) (vs : List Nat) (env : Env) (g : CV → Env → M Env) (cd : Env → M Bool) (elt : Env → M CV) (n : Nat) : Nat → Nat → M CV
  | 0, i => fun S => if ci.len S = some i then .ok (.ref n) S else .stuck
  | k + 1, i => fun S => match ci.get S i with
    | some c => ((g c (wipeE env vs)).nox.bind fun env1 => (cd env1).nox.bind fun b => match b with
      | true => (elt env1).nox.bind fun y => (vApp y (.ref n)).bind fun _ => lcGo ci vs env g cd elt n k (i + 1)
      | false => lcGo ci vs env g cd elt n k (i + 1)) S
    | none => .stuck
def eLc (it : Env → M CI) (vs : List Nat) (g : CV → Env → M Env) (cd : Env → M Bool) (elt : Env → M CV) : Env → M CV := fun env => (it env).bind fun ci S => match ci.len S with
  | some k => lcGo ci vs env g cd elt S.length k 0 (S ++ [.lst []])
  | none => .stuck
def cYes : Env → M Bool := fun _ => M.ret true
structure PTs' (X : Cx) (ifs : List Expr) (t : TT) : Prop where
  h : PTs X ifs t
theorem PTs_imp {ifs : List Expr} {t t' : TT} (h : PTs X ifs t) (i : ∀ σ H Q, t' σ H Q → t σ H Q) : PTs X ifs t' := ⟨fun pins s σ H Q I hw => h.run pins s σ H Q I (i _ _ _ hw)⟩
theorem tsnil : PTs X [] (tMB C cYes E) := PTs_imp pts_nil fun σ H Q ⟨ρ, S, env, hs, he, h⟩ => h.retB hs
theorem tsone {c : Expr} {mt : Env → M Bool} (h : PT X c (tMB C mt E)) : PTs X [c] (tMB C mt E) := pts_one h
theorem lcI {mi : Env → M CI} {mg1 : CV → Env → M Env} {mt : Env → M Bool} {mv : Env → M CV} {σ : L2.St} {Q : VK} (h : tM C (eLc mi vs mg1 mt mv) E σ H Q) : tLc (tMI C mi E) (tMG C vs mg1 E0) (tMB C mt E0) (tM C mv E0) vs σ H Q := by
  obtain ⟨ρ, S, env, hs, he, h⟩ := h
  refine ⟨ρ, S, env, hs, he, h.bind fun ci S1 ρ1 H1 J x1 s1 r1 h1 => fun D hD => ?_⟩
  cases q : ci.len S1 with
  | none =>
    rw [q] at h1
    exact h1.elim
  | some k =>
    rw [q] at h1
    obtain ⟨sD, xD, eD⟩ := s1.push (u := .lst []) (o := .lst []) hD fun ρ' x' => ⟨[], upd_same, .nil⟩
    refine ⟨fun i m H => ∃ ρ S, SR C ρ S H ∧ Ext C.K (ρ1 ++ [D]) (upd H1 D (.lst [])) ρ H ∧ MR C ρ H (RV C.K) (lcGo ci vs env mg1 mt mv S1.length m i S) Q E, ⟨k, _, _, sD, .refl, MR.mono xD h1⟩, ?_⟩
    rintro i m H2 ⟨ρ2, S2, s2, x2, h2⟩
    have xx2 : Ext C.K ρ1 H1 ρ2 H2 := xD.trans x2
    have hn2 : ρ2[S1.length]? = some D := pre_get x2.1 eD
    obtain ⟨it1, it2⟩ := r1 ρ2 S2 H2 xx2 s2
    cases m with
    | zero =>
      unfold lcGo at h2
      by_cases hl : ci.len S2 = some i
      · rw [if_pos hl] at h2
        exact .inl ⟨it2 i hl, MR.ret s2 (.ref hn2) h2⟩
      · rw [if_neg hl] at h2
        exact h2.elim
    | succ m =>
      unfold lcGo at h2
      cases hg : ci.get S2 i with
      | none =>
        rw [hg] at h2
        exact h2.elim
      | some c =>
        rw [hg] at h2
        dsimp only at h2
        obtain ⟨go, yl⟩ := it1 i c hg
        refine .inr ⟨go, fun H' => ∃ ρ S, SR C ρ S H' ∧ Ext C.K (ρ1 ++ [D]) (upd H1 D (.lst [])) ρ H' ∧ MR C ρ H' (RV C.K) (lcGo ci vs env mg1 mt mv S1.length m (i + 1) S) Q E, fun H' h' => ⟨m, Nat.lt_succ_self _, h'⟩, fun x H3 hy => ?_⟩
        obtain ⟨s3, x3, r3⟩ := yl x H3 hy
        have ew : RE C.K ρ2 H3 (wipeE env vs) (wipe σ vs) := ((he.up x1).up (xx2.trans x3)).wipe vs
        refine ⟨ρ2, S2, wipeE env vs, c, s3, ew, r3, MR.bindN (MR.mono x3 h2) fun env4 S4 ρ4 H4 σ4 x4 s4 r4 h4 => ⟨r4.2.trans (wipe_wipe σ vs), ρ4, S4, env4, s4, r4.1, ?_⟩⟩
        refine MR.bindN h4 fun b S5 ρ5 H5 bb x5 s5 r5 h5 => ?_
        subst r5
        have y5 : Ext C.K (ρ1 ++ [D]) (upd H1 D (.lst [])) ρ5 H5 := x2.trans (x3.trans (x4.trans x5))
        cases b with
        | false => exact iteF ⟨ρ5, S5, s5, y5, h5⟩
        | true =>
          refine iteT ⟨ρ5, S5, env4, s5, r4.1.up x5, MR.bindN h5 fun y S6 ρ6 H6 yy x6 s6 r6 h6 => ?_⟩
          have y6 := y5.trans x6
          have hn6 : ρ6[S1.length]? = some D := pre_get y6.1 eD
          have h7 := MR.bind (R := fun _ _ _ _ => True) (Q' := fun (_ : V) (_ : Hp) => True) h6 fun _ _ _ _ _ _ _ _ _ => trivial
          unfold M.bind vApp at h6
          obtain ⟨o, ho, ro⟩ := s6.cell hn6
          dsimp only at h6
          rw [ho] at h6
          cases o with
          | lst xs =>
            dsimp only at h6
            unfold M.grd at h6
            by_cases hz : xs.length < sizeLine
            · rw [if_pos hz] at h6
              dsimp only at h6
              obtain ⟨us, g, t⟩ := ro
              obtain ⟨s7, x7⟩ := s6.write (u := .lst (us ++ [yy])) (o := .lst (xs ++ [y])) ho rfl rfl hn6 g rfl fun x' => ⟨_, upd_same, (t.append (.cons r6 .nil)).up x'⟩
              exact ⟨us, g, by rw [← t.length]; exact hz, ρ6, _, s7, y6.trans x7, MR.mono x7 h6⟩
            · rw [if_neg hz] at h6
              exact h6.elim
          | _ => exact h6.elim
theorem glc {elt iter : Expr} {ifs : List Expr} {scope : Scope} {own : List (Str × Nat)} {mi : Env → M CI} {mg1 : CV → Env → M Env} {mt : Env → M Bool} {mv : Env → M CV} (hc : X.calm = true) (hN : X.N.Nodup) (hi : PI X tg iter (tMI C mi E)) (ok : BlkOk X.N X.env.scope scope own) (hv : own.map (·.2) = vs)
    (hg : ∀ (s : Shared) (H : Hp) (Ca : Addr) (cl : List (Str × Addr)) (fp : List Addr), PG (X.blk s H scope (compEnvC scope cl Ca X.env) fp) tg (tMG C vs mg1 E0)) (ht : ∀ (s : Shared) (H : Hp) (Ca : Addr) (cl : List (Str × Addr)) (fp : List Addr), PTs (X.blk s H scope (compEnvC scope cl Ca X.env) fp) ifs (tMB C mt E0))
    (he : ∀ (s : Shared) (H : Hp) (Ca : Addr) (cl : List (Str × Addr)) (fp : List Addr), PE (X.blk s H scope (compEnvC scope cl Ca X.env) fp) elt (tM C mv E0)) (hs : ∀ x, foldedSetIterable iter X.env x = pure x := by intro _; rfl) :
    PE X (.ListComp elt [⟨tg, iter, ifs, 0⟩] scope pos) (tM C (eLc mi vs mg1 mt mv) E) := PE_imp (pe_lc hc hN hi ok hg ht he hs) fun σ H Q h => by
  rw [hv]
  exact lcI h
theorem xsetLc {i : Nat} {y : Str} {py : Pos} {elt iter : Expr} {ifs : List Expr} {scope : Scope} {own : List (Str × Nat)} {spos : Pos} {mi : Env → M CI} {mg1 : CV → Env → M Env} {mt : Env → M Bool} {mv : Env → M CV} (hc : X.calm = true) (hN : X.N.Nodup) (hy : X.N[i]? = some y) (hyl : X.env.scope.names.lookup y = some .local)
    (hsw : swapsWith (.ListComp elt [⟨tg, iter, ifs, 0⟩] scope pos) (some (.Name y py)) spos.line X.env = pure true) (hi : PI X tg iter (tMI C mi E)) (ok : BlkOk X.N X.env.scope scope own) (hv : own.map (·.2) = vs)
    (hg : ∀ (s : Shared) (H : Hp) (Ca : Addr) (cl : List (Str × Addr)) (fp : List Addr), PG (X.blk s H scope (compEnvC scope cl Ca X.env) fp) tg (tMG C vs mg1 E0)) (ht : ∀ (s : Shared) (H : Hp) (Ca : Addr) (cl : List (Str × Addr)) (fp : List Addr), PTs (X.blk s H scope (compEnvC scope cl Ca X.env) fp) ifs (tMB C mt E0))
    (he : ∀ (s : Shared) (H : Hp) (Ca : Addr) (cl : List (Str × Addr)) (fp : List Addr), PE (X.blk s H scope (compEnvC scope cl Ca X.env) fp) elt (tM C mv E0)) (hs : ∀ x, foldedSetIterable iter X.env x = pure x := by intro _; rfl) :
    PS X (.Assign [.Name y py] (.ListComp elt [⟨tg, iter, ifs, 0⟩] scope pos) spos) (tMS C (sAsg (eLc mi vs mg1 mt mv) (gN i)) E) :=
  PS_imp (ps_setLc hc hN hy hyl hsw hi ok hg ht he hs) fun D σ H h => by
    rw [hv]
    have := asgI (vs := [i]) (g := gName i) (fun v σ H Q ⟨ρ, S, env, c, hs, he, r, h⟩ => show Q (σ.set i (some v)) H from MR.mono .refl h ρ H _ .refl hs ⟨he.set r i, wipe_set (by simp)⟩) h
    exact lcI this
end

/-! ### defs -/
def mFun (k n : Nat) (body : Env → M Fl) : List CV → M CV := fun args => if args.length = k then (body (args.map some ++ List.replicate (n - args.length) none)).bind fun fl => match fl with
  | .ret v => M.ret v
  | .nx _ => M.ret .non
  | _ => M.stk else M.stk
theorem mFun_len {k n : Nat} {body : Env → M Fl} : ∀ args S, mFun k n body args S ≠ .stuck → args.length = k := fun args S h => by
  unfold mFun at h
  by_cases e : args.length = k
  · exact e
  · rw [if_neg e] at h
    exact absurd rfl h
theorem RE.start {K : PySem.W.Frag} {ρ : List Addr} {H : Hp} {xs : List CV} {vs : List V} (h : RVs K ρ H xs vs) (N : List Str) : RE K ρ H (xs.map some ++ List.replicate (N.length - xs.length) none) (L2.start N vs) := by
  unfold L2.start
  rw [h.length]
  have rep : ∀ n : Nat, RE K ρ H (List.replicate n none) (List.replicate n none) := fun n => by
    induction n with
    | zero => exact .nil
    | succ n ih => exact .cons (show RO K ρ H none none from trivial) ih
  have go : ∀ {xs : List CV} {vs : List V} {a : Env} {b : L2.St}, RVs K ρ H xs vs → RE K ρ H a b → RE K ρ H (xs.map some ++ a) (vs.map some ++ b) := by
    intro xs
    induction xs with
    | nil =>
      intro vs a b h r
      cases h
      exact r
    | cons x xs ih =>
      intro vs a b h r
      cases h with
      | cons h t => exact .cons (show RO K ρ H (some x) (some _) from h) (ih t r)
  exact go h (rep _)
section
variable {P : Program} {w : World} {mg : Str → Option Value} {base : Heap} {C : Cl}
/-- THE RULE for a def: its body's mirror -/
theorem fnok {x qual : Str} {st : Stmt} {f : Addr} {fd : FuncData} {N ps : List Str} {k : Nat} {body : Env → M Fl} (F : Fun C.K x qual st f fd) (S : FnScope N ps (defScope st))
    (hb : ∀ (cdv : Value) (A : Around) (outer : List PySem.Env) (s : Shared) (H : Hp) (E : XK), Room k (A.deeper (PyProof.Rows.envOfC qual (defScope st) s.heap.objs.size f cdv)) → PSs (cxOf (L2.CX P w) P w C.K mg base N qual (defScope st) f cdv A outer s H E) (defBody st) (tMS C body E)) :
    FnOk P w C.K mg base (L2.CX P w) (k + 1) f fd ps (spM C ps.length (mFun ps.length N.length body)) := by
  refine F.okX S (fun vs H Q E h => h.1) fun cdv A outer s H vs Q E hr h => ⟨_, hb cdv A outer s H E hr, ?_⟩
  obtain ⟨hl, ρ, S', args, hs, ha, h⟩ := h
  have he : args.length = ps.length := ha.length.trans hl
  unfold mFun at h
  rw [if_pos he] at h
  refine ⟨ρ, S', _, hs, RE.start ha N, ?_⟩
  unfold M.bind at h
  cases e : body (args.map some ++ List.replicate (N.length - args.length) none) S' with
  | ok fl S1 =>
    rw [e] at h
    dsimp only at h
    cases fl with
    | nx env => exact fun ρ1 H1 σ1 x1 s1 r1 => h ρ1 H1 .non x1 s1 .non
    | ret v => exact h
    | brk env => exact h.elim
    | ct env => exact h.elim
  | exc c fs S1 =>
    rw [e] at h
    exact h
  | stuck =>
    rw [e] at h
    exact h.elim
end
/-- the heap at the law's entry: the script alone -/
theorem law_sp {C : Cl} {H : Hp} {a : Addr} {ns : List Int} {m : List CV → M CV} (ho : Only H) (hS : SqL C.K H a (ns.map V.int)) (h : ∃ S', m [.ref 0] [.rol (ns.map CV.int)] = .ok (.bl true) S') :
    spM C 1 m [.ref a] H (fun v _ => v = .bl true) fun _ _ _ => False := by
  have hr : RoL C.K H a (ns.map V.int) := by
    rcases hS with (h1 | ⟨o, h1⟩) | h1
    · rcases ho a with z | ⟨o, xs, z⟩
      · rw [z] at h1
        cases h1
      · rw [z] at h1
        cases h1
    · exact .inl ⟨o, h1⟩
    · exact .inr h1
  refine ⟨rfl, [a], [.rol (ns.map CV.int)], [.ref 0], ⟨rfl, ?_, ?_⟩, .cons (.ref rfl) .nil, ?_⟩
  · intro n m b o o' h1 h2 h3 h4 r1 r2
    match n, m, h3, h4 with
    | 0, 0, _, _ => rfl
    | 0, m + 1, _, h4 => simp at h4
    | n + 1, _, h3, _ => simp at h3
  · intro n b o h1 h2
    match n, h1, h2 with
    | 0, h1, h2 =>
      cases h1
      cases h2
      exact ⟨_, hr, RVs.ints ns⟩
    | n + 1, h1, h2 => simp at h1
  · obtain ⟨S', e⟩ := h
    rw [e]
    intro ρ' H' b x s r
    cases r
    rfl
end G
end
section
set_option Elab.async false
set_option linter.all false
set_option maxRecDepth 100000
/-! G, low: enumerate of a tuple, t[::-1] of a tuple. -/
namespace PySem
open Sem (wp)
open AutoSeq1 (wpAny_loadPart')
/-- enumerate(t) makes the tuple's iterator and its own record -/
theorem g_meets_enumT (l : Addr) (items : Array Value) (n : Nat) (dct : Option Addr) (sl : Array (Option Value)) :
    Meets (Builtin.«enumerate.__new__» ⟨[.type "enumerate", .ref l], []⟩) (fun _ R s => s.heap.get? l = some { cls := .type "tuple", dict := dct, data := .seq items n, slots := sl } ∧
      R (.ok (.ret (.ref (s.heap.push { cls := .type "tuple_iterator", data := .fields #[.ref l, .int 0 0] }).objs.size)))
        { s with heap := (s.heap.push { cls := .type "tuple_iterator", data := .fields #[.ref l, .int 0 0] }).push { cls := .type "enumerate", data := .fields #[.none, .bool false, .ref s.heap.objs.size, rawInt 0, .none, .none] } }) :=
  .of_wp fun prog w A R s ⟨hl, h⟩ => by
    obtain ⟨hp, g, d, tk, os⟩ := s
    have sub := sub_enumerate
    have hT : Heap.IsTuple (Shared.heap ⟨hp, g, d, tk, os⟩) l items := ⟨_, hl, rfl, n, rfl⟩
    wp_walk using wpAny_loadPart' hl
    refine wpAny_stack_any fun st => wpAny_pure ?_
    split
    · rename_i c _ _ _ _ _
      cases (c == Value.type "enumerate")
      · wp_walk using wpAny_loadPart' hl, wpAny_pyIter_tuple hT
        exact ⟨_, rfl, h⟩
      · wp_walk using wpAny_loadPart' hl, wpAny_pyIter_tuple hT
        exact ⟨_, rfl, h⟩
    · wp_walk using wpAny_loadPart' hl, wpAny_pyIter_tuple hT
      exact ⟨_, rfl, h⟩
theorem g_call_enumT {prog : Program} {w : World} {A : Around} {E : Value → Shared → Prop} {s : Shared} {l : Addr} {items : Array Value} {Q : Value → Shared → Prop} (hT : s.heap.IsTuple l items)
    (h : ∀ h', IsEnum h' (s.heap.objs.size + 1) s.heap.objs.size 0 .none → h'.IsTupleIter s.heap.objs.size l 0 →
      (∀ b o, s.heap.get? b = some o → h'.get? b = some o) → Q (.ref (s.heap.objs.size + 1)) { s with heap := h' }) :
    wpAny (model prog w) A (call (.type "enumerate") [.ref l]) Q E s := by
  obtain ⟨⟨c, dct, dt, sl⟩, hl, hc, n, hd⟩ := hT
  have hc' : c = .type "tuple" := hc
  have hd' : dt = .seq items n := hd
  subst hc' hd'
  refine callType_new (T := "enumerate") F.called_enumerate (by decide) (F.typeCall_enumerate_1 _) (F.newCall_enumerate_1 _) (fun o => F.args_object_init_2 o _) F.entry_enumerate_new (g_meets_enumT l items n dct sl) ⟨hl, ?_⟩
  have z1 : (s.heap.push { cls := .type "tuple_iterator", data := .fields #[.ref l, .int 0 0] }).objs.size = s.heap.objs.size + 1 := Heap.size_push ..
  have z2 := Heap.get?_push_size (s.heap.push { cls := .type "tuple_iterator", data := .fields #[.ref l, .int 0 0] }) (o := { cls := .type "enumerate", data := .fields #[.none, .bool false, .ref s.heap.objs.size, rawInt 0, .none, .none] }) rfl
  show _ ∧ _
  rw [z1] at z2 ⊢
  exact ⟨⟨_, z2, rfl⟩, h _ z2 ⟨_, Heap.get?_push_of_some _ (Heap.get?_push_size _ rfl), rfl, rfl⟩ fun b o q => Heap.get?_push_of_some _ (Heap.get?_push_of_some _ q)⟩
end PySem
namespace L2
open PySem
/-- a tuple's items with their places -/
def ItEt (K : PySem.W.Frag) (a : Addr) : It :=
  ⟨fun i H => ∃ (xs : List V) (x : V), SqT K H a xs ∧ xs[i]? = some x, fun i H v H' => ∃ T x, v = .ref T ∧ H T = none ∧ H' = upd H T (.tup [.int (i : Nat), x]) ∧ ∀ xs, SqT K H a xs → xs[i]? = some x, fun i H => ∃ xs : List V, SqT K H a xs ∧ xs.length ≤ i⟩
theorem g_turn_enumT {P : Program} {w : World} {K : PySem.W.Frag} {elts : List Expr} {kk : Nat} {tpos : Pos} (a e it : Addr) :
    Turn P w K (.Tuple elts kk tpos) (ItEt K a) [e, it] e (fun i h => (∃ old, IsEnum h e it ((i : Nat) : Int) old) ∧ h.IsTupleIter it a i ∧ e ≠ it) where
  mem := List.mem_cons_self
  obj := fun i h ⟨⟨old, he⟩, ⟨o, ho, hc, hd⟩, _⟩ b hb => by
    rcases List.mem_cons.mp hb with z | z
    · subst z
      exact ⟨_, he, fun v q => nomatch q⟩
    · have z' : b = it := by simpa using z
      subst z'
      exact ⟨o, ho, fun v q => by rw [hd] at q; cases q⟩
  keep := fun i h h' ⟨⟨old, he⟩, hi, hne⟩ k => ⟨⟨old, k e List.mem_cons_self _ he⟩, hi.at fun o q => k it (by simp) o q, hne⟩
  item := by
    intro X hP hw hK hc i pins s σ H E I hf st ⟨xs, x, hq, hx⟩
    subst hP hw hK
    obtain ⟨⟨old, he⟩, hit, hne⟩ := st
    obtain ⟨its, rv, p, hz⟩ := I.tuple hq
    obtain ⟨u, hu, ru⟩ := rv.get hx
    have el : e < s.heap.objs.size := Heap.lt_size he
    have il : it < s.heap.objs.size := by
      obtain ⟨_, q, _⟩ := hit
      exact Heap.lt_size q
    have ae : a ≠ it := by
      rintro rfl
      obtain ⟨o1, q1, c1, _⟩ := hit
      obtain ⟨o2, q2, c2, _⟩ := p
      rw [q1] at q2
      cases q2
      exact absurd (Value.type.inj (c1.symm.trans c2)) (by decide)
    have ae2 : a ≠ e := by
      rintro rfl
      obtain ⟨o2, q2, c2, _⟩ := p
      have q1 : s.heap.get? a = some _ := he
      rw [q1] at q2
      cases q2
      exact absurd (Value.type.inj c2) (by decide)
    refine wpAny_pyNext_enum_itemD (Draws.tuple (A := X.A.in1) (show X.A.in1.handled = none from I.ok.hd hc) it a ae its.toArray) he ⟨hit, p⟩ (i := i) (by have := (List.getElem?_eq_some_iff.mp hu).1; simpa using this) hne (fun z => by
      rcases List.mem_cons.mp z with z | z
      · exact hne z
      · exact ae2 ((List.mem_singleton.mp z).symm)) fun y h' tk hy ho hit' hT hsz hk => ?_
    have hyu : y = u := by
      have q : its[i]? = some y := by simpa using hy
      exact Option.some.inj (q.symm.trans hu)
    subst hyu
    refine ⟨_, rfl, wpAny_letOwnedTupleGo_enum (s := { s with heap := h', toks := tk + 1 }) ho fun h'' he' sb => ?_⟩
    have hT2 : h''.get? s.heap.objs.size = some { cls := .type "tuple", data := .seq #[.int i tk, y] } := (sb.2 _ (Nat.ne_of_gt el)).trans hT
    have new : ObjOk X.prog X.w (upd H s.heap.objs.size (.tup [.int (i : Nat), x])) h'' s.heap.objs.size (.tup [.int (i : Nat), x]) :=
      ⟨by show 2 ≤ sizeLine; decide, [.int i tk, y], .cons ⟨_, rfl⟩ (.cons ru .nil), ⟨_, hT2, rfl, _, rfl⟩⟩
    have I1 : Inv X pins σ (upd H s.heap.objs.size (.tup [.int (i : Nat), x])) { s with heap := h'', toks := tk + 1 } :=
      I.turnedNew (ch := [e, it]) (fun b ob hb q => (sb.2 b fun z => hb (by simp [z])).trans (hk b ob (fun z => hb (by simp [z])) (fun z => hb (by simp [z])) q)) hf (Nat.le_refl _) new
    refine ⟨.ref s.heap.objs.size, _, I1, rfl, ⟨_, x, rfl, I.hok.fresh (Nat.le_refl _), rfl, fun ys hy => by rw [I.tuple_inj hy hq]; exact hx⟩, ⟨⟨y, ?_⟩, hit'.1.at fun o q => (sb.2 it (Ne.symm hne)).trans q, hne⟩, fun b hb => ?_⟩
    · have e1 : ((i + 1 : Nat) : Int) = (i : Int) + 1 := by omega
      rw [e1]
      exact he'
    · have hb' : b < s.heap.objs.size := by
        rcases List.mem_cons.mp hb with z | z
        · rw [z]
          exact el
        · have z' : b = it := by simpa using z
          rw [z']
          exact il
      rw [upd_ne (Nat.ne_of_lt hb')]
      exact (hf b hb).1
  done := by
    intro X hP hw hK hc i pins s σ H E I hf st ⟨xs, hq, hx⟩
    subst hP hw hK
    obtain ⟨⟨old, he⟩, hit, hne⟩ := st
    obtain ⟨its, rv, p, hz⟩ := I.tuple hq
    have hl := rv.length
    obtain ⟨f0, f1, f2, f3, f4, f5⟩ := hf it (by simp)
    have ae : a ≠ it := by
      rintro rfl
      obtain ⟨o1, q1, c1, _⟩ := hit
      obtain ⟨o2, q2, c2, _⟩ := p
      rw [q1] at q2
      cases q2
      exact absurd (Value.type.inj (c1.symm.trans c2)) (by decide)
    unfold pyNext
    refine wpAny_bind (wpAny_attempt (wpAny_callSpecial?_slot (name := Str.ofString "__next__") ⟨_, he, rfl⟩ F.slot_enumerate_next
      (wpAny_call_entry F.slot_enumerate_next ⟨_, he, rfl⟩ F.entry_enumerate_next ?_ (F.args_enumerate_next_1 _))))
    show wpAny _ _ (field (.ref e) 2 >>= _) _ _ _
    refine wpAny_bind (wpAny_field he rfl (x := .ref it) rfl ?_)
    refine wpAny_bind (wpAny_nextOf_tuple_end (A := X.A.in1) (I.ok.hd hc) hit p (i := i) (by rw [Array.getElem?_eq_none]; simp; omega) fun h' x he' ⟨o, ho, hcx⟩ => ?_)
    refine wpAny_bind (wpAny_isInstance (T := "StopIteration") (b := true) ⟨o, ho, hcx⟩ isSubtype_stop ?_)
    exact wpAny_pure ⟨rfl, I.turned (t' := s.toks) (fun b o hb q => he' b o hb q) f0 f1 f3 f4 f5⟩
  self := fun A i s Q E ⟨⟨_, he⟩, _⟩ h => wpAny_pyIter_enum he h
def iEnumT (K : PySem.W.Frag) (ta : TA) : TI := fun σ H R => ta σ H fun vs H1 => ∃ a xs, vs = [.ref a] ∧ SqT K H1 a xs ∧ R (ItEt K a) H1
theorem g_pi_enumT {X : Cx} {e : Expr} {ta : TA} {p pos tpos : Pos} {elts : List Expr} {kk : Nat} (hg : Gl X "enumerate") (hm : X.mg "enumerate" = none) (ha : PA X [e] ta) (hs : starEach [e] X.env = [(false, eval e X.env)] := by rfl) :
    PI X (.Tuple elts kk tpos) (.Call (.Name "enumerate" p) [e] [] pos) (iEnumT X.K ta) := ⟨fun pins s σ H R I h => by
  refine PyProof.Rows.Call_ (ld_blt I hg hm PyProof.Rows.boot_enumerate (PyProof.Rows.callWith_type1 (thn (ha.run pos pins s σ H _ I h) fun us s1 ⟨vs, H1, I1, r1, a, xs, ex, hq, q⟩ => ?_) hs rfl))
  subst ex
  obtain ⟨u, rfl, ru⟩ := vals1 r1
  cases ru
  obtain ⟨its, rv, p', hz⟩ := I1.tuple hq
  refine g_call_enumT p' fun h' he hit hk => wpAny_pyIter_enum he ?_
  have I2 : Inv X pins σ H1 { s1 with heap := h' } := I1.kept (t' := s1.toks) hk
  refine ⟨s1.heap.objs.size + 1, [s1.heap.objs.size + 1, s1.heap.objs.size], _, _, H1, rfl, I2, g_turn_enumT a (s1.heap.objs.size + 1) s1.heap.objs.size, ⟨⟨.none, he⟩, hit, Nat.succ_ne_self _⟩, fun b hb => ?_, q⟩
  have hle : s1.heap.objs.size ≤ b := by
    rcases List.mem_cons.mp hb with z | z
    · rw [z]
      exact Nat.le_add_right _ _
    · have z' : b = s1.heap.objs.size := by simpa using z
      rw [z']
      exact Nat.le_refl _
  exact I1.fpOk hle (I1.hok.fresh hle)⟩

/-! ### t[::-1], a tuple -/
theorem g_adjBack (n : Nat) : Builtin.Slice.sliceAdjust none none (-1) (n : Int) = ((n : Int) - 1, -1) := by
  unfold Builtin.Slice.sliceAdjust
  simp
theorem g_plBack (n : Nat) : Builtin.Slice.slicePlaces ((n : Int) - 1) (-1) (-1) = n := by
  unfold Builtin.Slice.slicePlaces
  simp
  split <;> omega
theorem g_pickBack (xs : Array Value) : ((List.range xs.size).filterMap fun (k : Nat) => xs[(((xs.size : Int) - 1) + (k : Int) * (-1)).toNat]?).toArray = xs.toList.reverse.toArray := by
  congr 1
  have r : ∀ (l : List Value) (n : Nat), n ≤ l.length → (List.range n).filterMap (fun k => l[k]?) = l.take n := by
    intro l n
    induction n with
    | zero => intro _; rfl
    | succ n ih =>
      intro hn
      have hn' : n < l.length := hn
      rw [List.range_succ, List.filterMap_append, ih (Nat.le_of_lt hn'), List.take_add_one, List.filterMap_cons, List.filterMap_nil, List.getElem?_eq_getElem hn']
      rfl
  have e : ∀ n : Nat, n ≤ xs.size → (List.range n).filterMap (fun (k : Nat) => xs[(((xs.size : Int) - 1) + (k : Int) * (-1)).toNat]?) = (List.range n).filterMap (fun k => xs.toList.reverse[k]?) := by
    intro n
    induction n with
    | zero => intro _; rfl
    | succ n ih =>
      intro hn
      rw [List.range_succ, List.filterMap_append, List.filterMap_append, ih (by omega)]
      congr 1
      have hl : n < xs.toList.length := by
        rw [Array.length_toList]
        omega
      have q : xs[(((xs.size : Int) - 1) + (n : Int) * (-1)).toNat]? = xs.toList.reverse[n]? := by
        rw [List.getElem?_reverse hl, Array.getElem?_toList]
        congr 1
        simp
        omega
      rw [List.filterMap_cons, List.filterMap_cons, q]
      rfl
  rw [e _ (Nat.le_refl _), r _ _ (by simp)]
  exact List.take_of_length_le (by simp)
section
variable {prog : Program} {w : World} {A : Around} {E : Value → Shared → Prop} {s : Shared}
theorem g_sliceBack {sl : Addr} {vl vu vs : Value} {n : Nat} {Q : Int × Int × Nat → Shared → Prop} (hs : s.heap.IsSliceOf sl vl vu vs) (pl : IsPart vl none) (pu : IsPart vu none) (ps : IsPart vs (some (-1)))
    (h : Q ((n : Int) - 1, -1, n) s) : wpAny (model prog w) A (Builtin.Slice.sliceApplied (.ref sl) (pure (n : Int))) Q E s := by
  obtain ⟨os, hos, _, hds⟩ := hs
  unfold Builtin.Slice.sliceApplied Builtin.Slice.sliceFields
  refine wpAny_bind (wpAny_bind (wpAny_field hos hds (x := vl) rfl (wpAny_bind (wpAny_field hos hds (x := vu) rfl (wpAny_bind (wpAny_field hos hds (x := vs) rfl (wpAny_pure ?_)))))))
  refine wpAny_bind (HT.slicePart_ ps ?_)
  show wpAny _ _ (if ((-1 : Int) == 0) = true then _ else _) _ _ s
  rw [if_neg (by decide)]
  refine wpAny_bind (HT.slicePart_ pl (wpAny_bind (HT.slicePart_ pu (wpAny_bind (wpAny_pure ?_)))))
  show wpAny _ _ (match Builtin.Slice.sliceAdjust none none (-1) (n : Int) with | (lo, hi) => pure (lo, (-1 : Int), Builtin.Slice.slicePlaces lo hi (-1))) _ _ s
  rw [g_adjBack n]
  show wpAny _ _ (pure ((n : Int) - 1, (-1 : Int), Builtin.Slice.slicePlaces ((n : Int) - 1) (-1) (-1))) _ _ s
  rw [g_plBack]
  exact wpAny_pure h
theorem g_tupBack {t sl : Addr} {items : Array Value} {vl vu vs : Value} {Q : Value → Shared → Prop} (ht : PyProof.Rows.IsTup s.heap t items) (hs : s.heap.IsSliceOf sl vl vu vs) (pl : IsPart vl none) (pu : IsPart vu none) (ps : IsPart vs (some (-1)))
    (hz : items.size ≤ sizeLine) (h : Q (.ref s.heap.objs.size) { s with heap := s.heap.push { cls := .type "tuple", data := .seq items.toList.reverse.toArray } }) : wpAny (model prog w) A (getItem (.ref t) (.ref sl)) Q E s := by
  have hT : s.TypeIs (.ref sl) "slice" := by
    obtain ⟨os, hos, hcs, _⟩ := hs
    exact ⟨os, hos, hcs⟩
  have hk : sizeOk (.seq items.toList.reverse.toArray) := by
    show items.toList.reverse.toArray.size ≤ sizeLine
    simpa using hz
  unfold getItem
  try with_reducible refine wpAny_holding ?_
  first | refine wpAny_bind (wpAny_pure ?_) | skip
  refine wpAny_bind (wpAny_sequenceKey ht.typeIs (by decide) ?_)
  refine wpAny_bind (wpAny_callSpecial?_slot (name := Str.ofString "__getitem__") ht.typeIs PyProof.Rows.slot_tuple_getitem
    (wpAny_call_entry PyProof.Rows.slot_tuple_getitem ht.typeIs PyProof.Rows.entry_tuple_getitem ?_ (PyProof.Rows.args_tuple_getitem _ _)))
  show wpAny _ _ (Builtin.Tuple.tupleItemsOf (.ref t) >>= _) _ _ s
  refine wpAny_bind (PyProof.Rows.tupleItemsOf_ ht (wpAny_bind (wpAny_typeOf hT ?_)))
  rw [if_pos (by decide)]
  refine wpAny_bind (g_sliceBack hs pl pu ps ?_)
  have no : ¬ ((((items.size : Int) - 1) == 0 && (-1 : Int) == 1 && items.size == items.size) = true) := by
    intro q
    rw [Bool.and_eq_true, Bool.and_eq_true] at q
    exact absurd q.1.2 (by decide)
  show wpAny _ _ (if (((items.size : Int) - 1) == 0 && (-1 : Int) == 1 && items.size == items.size) = true then _ else _) _ _ s
  rw [if_neg no, g_pickBack]
  first
    | exact wpAny_bind (m := Builtin.Tuple.tupleExact _) (wpAny_newObj_type (wpAny_pure ⟨_, rfl, wpAny_pure h⟩) hk)
    | exact wpAny_bind (m := Builtin.Tuple.tupleExact _) (wpAny_newObj_type (wpAny_bind (wpAny_pure (wpAny_pure ⟨_, rfl, wpAny_pure h⟩))) hk)
    | exact wpAny_bind (wpAny_bind (m := Builtin.Tuple.tupleExact _) (wpAny_newObj_type (wpAny_pure ⟨_, rfl, wpAny_pure h⟩) hk))
end
def tRevT (K : PySem.W.Frag) (te : TE) : TE := fun σ H Q => te σ H fun x H1 => ∃ a xs, x = .ref a ∧ SqT K H1 a xs ∧ ∀ p, H1 p = none → Q (.ref p) (upd H1 p (.tup xs.reverse))
theorem g_pe_revT {X : Cx} {e : Expr} {te : TE} {k : Nat} {p1 p2 p3 pos : Pos} (he : PE X e te) : PE X (.Subscript e (.Slice none none (some (.UnaryOp .USub (.Constant (.int 1) k p1) p2)) p3) pos) (tRevT X.K te) := ⟨fun pins s σ H Q I h => by
  refine PyProof.Rows.Subscript_ (thn (he.run pins s σ H _ I h) fun v s1 ⟨x, H1, I1, r1, a, xs, ex, hx, q⟩ => ?_)
  subst ex
  cases r1
  have hst : PO X (some (.UnaryOp .USub (.Constant (.int 1) k p1) p2)) (tPart (tUn (rU fun i => .int (-i)) (tC (.int 1)))) := po_some (pe_un un_neg pe_int)
  refine wpAny_Slice (thn (po_none.run pins s1 σ H1 (fun o H2 => o = none ∧ H2 = H1) I1 ⟨rfl, rfl⟩) fun vl s2 ⟨l, H2, I2, pl, el, e2⟩ => ?_)
  subst el e2
  refine thn (po_none.run pins s2 σ H2 (fun o H3 => o = none ∧ H3 = H2) I2 ⟨rfl, rfl⟩) fun vu s3 ⟨u, H3, I3, pu, eu, e3⟩ => ?_
  subst eu e3
  refine thn (hst.run pins s3 σ H3 (fun o H4 => o = some (-1) ∧ H4 = H3) I3 ⟨1, rfl, -1, rfl, rfl, rfl⟩) fun vs s4 ⟨o, H4, I4, ps, eo, e4⟩ => ?_
  subst eo e4
  have I5 : Inv X pins σ H4 { s4 with heap := s4.heap.push { cls := .type "slice", data := .fields #[vl, vu, vs] } } := I4.kept (t' := s4.toks) fun b ob q => Heap.get?_push_of_some _ q
  obtain ⟨its, r, ht, hz⟩ := I5.tuple hx
  have hl := r.length
  show wpAny (model X.prog X.w) X.A (PyProof.Rows.subscriptTail e (.Slice none none (some (.UnaryOp .USub (.Constant (.int 1) k p1) p2)) p3) (.ref a) (.ref s4.heap.objs.size)) (EP X pins σ Q) X.xe { s4 with heap := s4.heap.push { cls := .type "slice", data := .fields #[vl, vu, vs] } }
  refine PyProof.Rows.tail_any (ops := [.ref a, .ref s4.heap.objs.size]) ht.typeIs PyProof.Rows.slot_tuple_getitem.lookup ?_ (by with_unfolding_all rfl)
  refine g_tupBack ht (Heap.IsSliceOf.new _ vl vu vs) pl pu ps (by rw [List.size_toArray]; omega) ?_
  refine ⟨.ref _, _, I5.laid (t' := s4.toks) (o := .tup xs.reverse) (fun b ob q => Heap.get?_push_of_some _ q) (Nat.le_refl _) ?_, rfl, q _ (I5.hok.fresh (Nat.le_refl _))⟩
  exact ⟨by rw [List.length_reverse]; exact hz, _, r.reverse, ⟨_, Heap.get?_push_size _ rfl, rfl, 0, rfl⟩⟩⟩
end L2
end
section
set_option Elab.async false
set_option linter.all false
set_option maxRecDepth 100000
/-! G: what the printed texts lean on. -/
namespace G
open PySem L2
section
variable {X : Cx} {C : Cl} {E : XK} {ρ : List Addr} {S : CH} {H : Hp}
variable {e a b tg : Expr} {es : List Expr} {ma mb mc : Env → M CV} {mr : Env → M (List CV)} {pos : Pos}
theorem hu65_of {A : Around} {k : Nat} (r : Room k A) : A.units + 65 < cLine := by
  have := r.un
  omega
theorem op_eqG (hu : X.A.units + 64 < cLine) : OpR X (compareOp .Eq) (fun x y H Q => ∃ d e, Dp X.K H x d ∧ Dp X.K H y e ∧ SeqAt.shaped d = true ∧ SeqAt.shaped e = true ∧ Q (.bl (false != PyData.eqv d e)) H) := by
  simp only [Bool.false_bne]
  exact op_eqD hu
theorem op_neG (hu : X.A.units + 64 < cLine) : OpR X (compareOp .NotEq) (fun x y H Q => ∃ d e, Dp X.K H x d ∧ Dp X.K H y e ∧ SeqAt.shaped d = true ∧ SeqAt.shaped e = true ∧ Q (.bl (true != PyData.eqv d e)) H) := by
  simp only [Bool.true_bne]
  exact op_neD hu
theorem PE_or {t t' : TE} (h : PE X e t) (h' : PE X e t') : PE X e (fun σ H Q => t σ H Q ∨ t' σ H Q) := ⟨fun pins s σ H Q I hw => hw.elim (h.run pins s σ H Q I) (h'.run pins s σ H Q I)⟩
/-- a[::-1] -/
def vRev : CV → M CV := fun x S => match x with
  | .tup xs => .ok (.tup xs.reverse) S
  | .ref n => match lstOf S[n]? with
    | some xs => M.new (.lst xs.reverse) S
    | none => .stuck
  | _ => .stuck
def eRev (a : Env → M CV) : Env → M CV := fun env => (a env).bind vRev
theorem grev {k : Nat} {p1 p2 p3 : Pos} (hK : X.K = C.K) (ha : PE X e (tM C ma E)) : PE X (.Subscript e (.Slice none none (some (.UnaryOp .USub (.Constant (.int 1) k p1) p2)) p3) pos) (tM C (eRev ma) E) :=
  PE_imp (PE_or (pe_revL ha) (g_pe_revT ha)) fun σ H Q ⟨ρ, S, env, hs, he, h⟩ => by
    rw [hK]
    unfold eRev M.bind at h
    cases q : ma env S with
    | stuck =>
      rw [q] at h
      exact h.elim
    | exc c fs S' =>
      rw [q] at h
      refine .inl ⟨ρ, S, env, hs, he, ?_⟩
      rw [q]
      exact h
    | ok v S1 =>
      rw [q] at h
      dsimp only at h
      cases v with
      | tup xs =>
        refine .inr ⟨ρ, S, env, hs, he, ?_⟩
        rw [q]
        intro ρ1 H1 vv x1 s1 r1
        cases r1 with
        | @tup _ vs p hp t => exact ⟨p, vs, rfl, hp, MR.newT s1 t.reverse (MR.mono x1 h)⟩
      | ref n =>
        refine .inl ⟨ρ, S, env, hs, he, ?_⟩
        rw [q]
        intro ρ1 H1 vv x1 s1 r1
        cases r1 with
        | @ref _ p hp =>
          have h2 := MR.mono x1 h
          unfold vRev at h2
          dsimp only at h2
          cases q0 : lstOf S1[n]? with
          | none =>
            rw [q0] at h2
            exact h2.elim
          | some xs =>
            rw [q0] at h2
            obtain ⟨vs, g, t⟩ := s1.seq hp q0
            exact ⟨p, vs, rfl, g, MR.newL s1 t.reverse h2⟩
      | _ => exact h.elim
/-- enumerate(a) -/
def vEn : List CV → M CI := fun xs S => match xs with
  | [.tup ys] => .ok (.enT ys) S
  | [.ref n] => match lstOf S[n]? with
    | some _ => .ok (.enL n) S
    | none => .stuck
  | _ => .stuck
theorem itOk_enT {xs : List CV} {vs : List V} {p : Addr} (hp : SqT C.K H p vs) (t : RVs C.K ρ H xs vs) : ItOk C ρ H (.enT xs) (ItEt C.K p) := by
  intro ρ' S' H' x s
  have hp' := x.2 _ _ hp
  have t' := t.up x
  refine ⟨fun i c e => ?_, fun i e => ?_⟩
  · unfold CI.get at e
    dsimp only at e
    cases q1 : xs[i]? with
    | none =>
      rw [q1] at e
      cases e
    | some c1 =>
      rw [q1] at e
      cases e
      obtain ⟨v, e2, r⟩ := t'.get' q1
      refine ⟨⟨vs, v, hp', e2⟩, fun y H'' hy => ?_⟩
      obtain ⟨T, z, rfl, hT, rfl, hy⟩ := hy
      have e3 : v = z := Option.some.inj (e2.symm.trans (hy vs hp'))
      subst e3
      obtain ⟨s1, x1⟩ := s.laid (u := .tup [.int (i : Nat), v]) hT
      exact ⟨s1, x1, .tup (SqT.of upd_same) (.cons (.int _) (.cons (r.up x1) .nil))⟩
  · have e' : xs.length = i := Option.some.inj e
    exact ⟨vs, hp', by rw [← e', t.length]; exact Nat.le_refl _⟩
theorem genum {p tpos : Pos} {elts : List Expr} {kk : Nat} (hK : X.K = C.K) (hg : Gl X "enumerate") (hm : X.mg "enumerate" = none) (ha : PA X [e] (tMA C mr E)) (hs : starEach [e] X.env = [(false, eval e X.env)] := by rfl) :
    PI X (.Tuple elts kk tpos) (.Call (.Name "enumerate" p) [e] [] pos) (tMI C (iCl vEn mr) E) :=
  PI_imp (PI_or (pi_enum hg hm ha hs) (g_pi_enumT hg hm ha hs)) fun σ H R ⟨ρ, S, env, hs, he, h⟩ => by
    rw [hK]
    unfold iCl M.bind at h
    cases q : mr env S with
    | stuck =>
      rw [q] at h
      exact h.elim
    | exc c fs S' =>
      rw [q] at h
      refine .inl ⟨ρ, S, env, hs, he, ?_⟩
      rw [q]
      exact h
    | ok v S1 =>
      rw [q] at h
      dsimp only at h
      match v, q, h with
      | [], q, h => exact h.elim
      | [.tup xs], q, h =>
        refine .inr ⟨ρ, S, env, hs, he, ?_⟩
        rw [q]
        intro ρ1 H1 vv x1 s1 r1
        obtain ⟨v1, rfl, r2⟩ := r1.one
        cases r2 with
        | @tup _ vs p hp t => exact ⟨p, vs, rfl, hp, MR.retI s1 (itOk_enT hp t) (MR.mono x1 h)⟩
      | [.ref n], q, h =>
        refine .inl ⟨ρ, S, env, hs, he, ?_⟩
        rw [q]
        intro ρ1 H1 vv x1 s1 r1
        obtain ⟨v1, rfl, r2⟩ := r1.one
        cases r2 with
        | @ref _ p hp =>
          have h2 := MR.mono x1 h
          unfold vEn at h2
          dsimp only at h2
          cases q0 : lstOf S1[n]? with
          | none =>
            rw [q0] at h2
            exact h2.elim
          | some xs =>
            rw [q0] at h2
            obtain ⟨vs, g, t⟩ := s1.seq hp q0
            exact ⟨p, vs, rfl, g, MR.retI s1 (itOk_enL hp) h2⟩
      | [.non], _, h => exact h.elim
      | [.bl _], _, h => exact h.elim
      | [.int _], _, h => exact h.elim
      | [.str _], _, h => exact h.elim
      | x :: y :: r, _, h => cases x <;> exact h.elim
end
def wFuel : Nat := 1000000000
theorem cx_end {P : Program} {w : World} {H : Hp} {s : Shared} {e : Value} {s' : Shared} (h : L2.CX P w [] H s (fun _ _ _ => False) e s') : False := by
  obtain ⟨_, _, _, _, _, _, _, _, _, _, _, _, z⟩ := h
  exact z
end G
end
section
set_option Elab.async false
set_option linter.all false
set_option maxRecDepth 100000
/-! G: what a mirror's run comes to (weakest preconditions; nothing is raised). -/
namespace G
open PySem L2
def wp {α : Type} (m : M α) (S : CH) (Q : α → CH → Prop) : Prop := ∃ a S', m S = .ok a S' ∧ Q a S'
def optW {α : Type} (o : Option α) (k : α → Prop) : Prop := match o with
  | some a => k a
  | none => False
theorem optW_some {α : Type} {a : α} {k : α → Prop} : optW (some a) k = k a := rfl
theorem optW_none {α : Type} {k : α → Prop} : optW (none : Option α) k = False := rfl
theorem optW_of {α : Type} {o : Option α} {a : α} {k : α → Prop} (h : o = some a) (q : k a) : optW o k := by
  rw [h]
  exact q
section
variable {α β : Type} {S : CH}
theorem wp_mono {m : M α} {Q Q' : α → CH → Prop} (h : wp m S Q) (k : ∀ a S', Q a S' → Q' a S') : wp m S Q' := by
  obtain ⟨a, S', e, q⟩ := h
  exact ⟨a, S', e, k a S' q⟩
theorem wp_eq {m : M α} {a : α} {S' : CH} {Q : α → CH → Prop} (e : m S = .ok a S') : wp m S Q = Q a S' := by
  refine propext ⟨fun ⟨a', S1, e1, q⟩ => ?_, fun q => ⟨a, S', e, q⟩⟩
  rw [e] at e1
  cases e1
  exact q
theorem wp_not {m : M α} {Q : α → CH → Prop} (e : ∀ a S', m S ≠ .ok a S') : wp m S Q = False := by
  refine propext ⟨fun ⟨a', S1, e1, q⟩ => e _ _ e1, fun q => q.elim⟩
theorem wp_ret {a : α} {Q : α → CH → Prop} : wp (M.ret a) S Q = Q a S := wp_eq rfl
theorem wp_okf {a : α} {S' : CH} {Q : α → CH → Prop} : wp (fun _ => .ok a S') S Q = Q a S' := wp_eq rfl
theorem wp_stk {Q : α → CH → Prop} : wp (M.stk : M α) S Q = False := wp_not fun _ _ => nofun
theorem wp_bind {m : M α} {f : α → M β} {Q : β → CH → Prop} : wp (m.bind f) S Q = wp m S fun a S1 => wp (f a) S1 Q := by
  cases e : m S with
  | ok a S1 =>
    rw [wp_eq e]
    have e2 : (m.bind f) S = f a S1 := by
      unfold M.bind
      rw [e]
    unfold wp
    rw [e2]
  | exc c fs S1 =>
    rw [wp_not (m := m) (by intro a b; rw [e]; nofun)]
    exact wp_not (by intro a b; unfold M.bind; rw [e]; nofun)
  | stuck =>
    rw [wp_not (m := m) (by intro a b; rw [e]; nofun)]
    exact wp_not (by intro a b; unfold M.bind; rw [e]; nofun)
theorem wp_grd {c : Prop} [Decidable c] {m : M α} {Q : α → CH → Prop} : wp (M.grd c m) S Q = (c ∧ wp m S Q) := by
  unfold M.grd wp
  by_cases h : c
  · simp [h]
  · simp [h]
theorem wp_nox {m : M α} {Q : α → CH → Prop} : wp m.nox S Q = wp m S Q := by
  cases e : m S with
  | ok a S1 =>
    rw [wp_eq e]
    exact wp_eq (by unfold M.nox; rw [e])
  | exc c fs S1 =>
    rw [wp_not (m := m) (by intro a b; rw [e]; nofun)]
    exact wp_not (by intro a b; unfold M.nox; rw [e]; nofun)
  | stuck =>
    rw [wp_not (m := m) (by intro a b; rw [e]; nofun)]
    exact wp_not (by intro a b; unfold M.nox; rw [e]; nofun)
theorem wp_new {o : CO} {Q : CV → CH → Prop} : wp (M.new o) S Q = Q (.ref S.length) (S ++ [o]) := wp_eq rfl
variable {env : Env} {Q : CV → CH → Prop} {a b : Env → M CV} {r : Env → M (List CV)}
theorem wp_eC {c : CV} : wp (eC c env) S Q = Q c S := wp_eq rfl
theorem wp_eV {i : Nat} : wp (eV i env) S Q = optW (env[i]?) fun o => optW o fun c => Q c S := by
  unfold eV
  cases env[i]? with
  | none => exact wp_stk
  | some o =>
    cases o with
    | none => exact wp_stk
    | some c => exact wp_ret
theorem wp_eB {f : CV → CV → M CV} : wp (eB f a b env) S Q = wp (a env) S fun x S1 => wp (b env) S1 fun y S2 => wp (f x y) S2 Q := by
  unfold eB
  rw [wp_bind]
  congr 1
  funext x S1
  rw [wp_bind]
theorem wp_add {i j : Int} : wp (vAdd (.int i) (.int j)) S Q = Q (.int (i + j)) S := wp_eq rfl
theorem wp_addT {xs ys : List CV} : wp (vAdd (.tup xs) (.tup ys)) S Q = (xs.length + ys.length ≤ sizeLine ∧ Q (.tup (xs ++ ys)) S) := by
  show wp (M.grd _ _) S Q = _
  rw [wp_grd, wp_ret]
theorem wp_addL {n m : Nat} {xs ys : List CV} (h1 : S[n]? = some (.lst xs)) (h2 : S[m]? = some (.lst ys)) (hz : xs.length + ys.length ≤ sizeLine) : wp (vAdd (.ref n) (.ref m)) S Q = Q (.ref S.length) (S ++ [.lst (xs ++ ys)]) := by
  refine wp_eq ?_
  unfold vAdd
  dsimp only
  rw [h1, h2]
  dsimp only
  unfold M.grd
  rw [if_pos hz]
  rfl
theorem wp_vI {p : Int → Int → Bool} {g : Int → Int → Int} {i j : Int} : wp (vI p g (.int i) (.int j)) S Q = (p i j = true ∧ Q (.int (g i j)) S) := by
  show wp (M.grd _ _) S Q = _
  rw [wp_grd, wp_ret]
theorem wp_sub {i j : Int} : wp (vSub (.int i) (.int j)) S Q = Q (.int (i - j)) S := by
  unfold vSub
  rw [wp_vI]
  simp
theorem wp_mul {i j : Int} : wp (vMul (.int i) (.int j)) S Q = (mulOk i j = true ∧ Q (.int (i * j)) S) := wp_vI
theorem wp_div {i j : Int} : wp (vDiv (.int i) (.int j)) S Q = (divOk i j = true ∧ Q (.int (i / j)) S) := wp_vI
theorem wp_mod {i j : Int} : wp (vMod (.int i) (.int j)) S Q = (0 < j ∧ Q (.int (i % j)) S) := by
  unfold vMod
  rw [wp_vI]
  simp
theorem wp_pow {i j : Int} : wp (vPow (.int i) (.int j)) S Q = (powOk i j = true ∧ Q (.int (i ^ j.toNat)) S) := wp_vI
theorem wp_cmp {p : Int → Int → Bool} {i j : Int} : wp (vCmp p (.int i) (.int j)) S Q = Q (.bl (p i j)) S := wp_eq rfl
theorem wp_eNeg : wp (eNeg a env) S Q = wp (a env) S fun x S1 => match x with
    | .int i => Q (.int (-i)) S1
    | _ => False := by
  unfold eNeg
  rw [wp_bind]
  congr 1
  funext x S1
  cases x <;> first | exact wp_stk | exact wp_ret
theorem wp_vEq {neg : Bool} {x y : CV} : wp (vEq neg x y) S Q = optW (datK S x) fun d => optW (datK S y) fun e => Q (.bl (neg != PyData.eqv d e)) S := by
  cases e1 : datK S x with
  | none => exact wp_not (by intro a b; unfold vEq; rw [e1]; nofun)
  | some d =>
    cases e2 : datK S y with
    | none => exact wp_not (by intro a b; unfold vEq; rw [e1, e2]; nofun)
    | some e => exact wp_eq (by unfold vEq; rw [e1, e2])
theorem wp_eIsN {neg : Bool} : wp (eIsN neg a env) S Q = wp (a env) S fun x S1 => Q (.bl (neg != x.isNon)) S1 := by
  unfold eIsN
  simp only [wp_bind, wp_ret]
theorem wp_eChain {f g : CV → CV → M CV} {c : Env → M CV} : wp (eChain f g a b c env) S Q = wp (a env) S fun x S1 => wp (b env) S1 fun y S2 => wp (f x y) S2 fun k S3 => match k with
    | .bl k => if k = true then wp (c env) S3 fun z S4 => wp (g y z) S4 Q else Q (.bl false) S3
    | _ => False := by
  unfold eChain
  simp only [wp_bind]
  congr 1
  funext x S1
  congr 1
  funext y S2
  congr 1
  funext k S3
  match k with
  | .bl true =>
    rw [wp_bind]
    simp
  | .bl false =>
    rw [wp_ret]
    simp
  | .non => exact wp_stk
  | .int _ => exact wp_stk
  | .str _ => exact wp_stk
  | .ref _ => exact wp_stk
  | .tup _ => exact wp_stk
def vBk (Q : Bool → CH → Prop) (x : CV) (S : CH) : Prop := match x with
  | .bl k => Q k S
  | _ => False
theorem vBk_bl {Q : Bool → CH → Prop} {k : Bool} : vBk Q (.bl k) S = Q k S := rfl
theorem wp_cV {Q : Bool → CH → Prop} : wp (cV a env) S Q = wp (a env) S (vBk Q) := by
  unfold cV
  rw [wp_bind]
  congr 1
  funext x S1
  cases x <;> first | exact wp_stk | exact wp_ret
variable {c d : Env → M Bool} {QB : Bool → CH → Prop}
theorem wp_cNot : wp (cNot c env) S QB = wp (c env) S fun k S1 => QB (!k) S1 := by
  unfold cNot
  simp only [wp_bind, wp_ret]
theorem wp_cAnd : wp (cAnd c d env) S QB = wp (c env) S fun k S1 => if k = true then wp (d env) S1 QB else QB false S1 := by
  unfold cAnd
  rw [wp_bind]
  congr 1
  funext k S1
  cases k
  · rw [if_neg (by simp)]
    exact wp_ret
  · rw [if_pos rfl]
theorem wp_cOr : wp (cOr c d env) S QB = wp (c env) S fun k S1 => if k = true then QB true S1 else wp (d env) S1 QB := by
  unfold cOr
  rw [wp_bind]
  congr 1
  funext k S1
  cases k
  · rw [if_neg (by simp)]
  · rw [if_pos rfl]
    exact wp_ret
theorem wp_eAnd : wp (eAnd a b env) S Q = wp (a env) S (vBk fun k S1 => if k = true then wp (b env) S1 Q else Q (.bl false) S1) := by
  unfold eAnd
  rw [wp_bind]
  congr 1
  funext x S1
  match x with
  | .bl true =>
    rw [vBk_bl, if_pos rfl]
  | .bl false =>
    rw [vBk_bl, if_neg (by simp)]
    exact wp_ret
  | .non => exact wp_stk
  | .int _ => exact wp_stk
  | .str _ => exact wp_stk
  | .ref _ => exact wp_stk
  | .tup _ => exact wp_stk
theorem wp_eOr : wp (eOr a b env) S Q = wp (a env) S (vBk fun k S1 => if k = true then Q (.bl true) S1 else wp (b env) S1 Q) := by
  unfold eOr
  rw [wp_bind]
  congr 1
  funext x S1
  match x with
  | .bl true =>
    rw [vBk_bl, if_pos rfl]
    exact wp_ret
  | .bl false =>
    rw [vBk_bl, if_neg (by simp)]
  | .non => exact wp_stk
  | .int _ => exact wp_stk
  | .str _ => exact wp_stk
  | .ref _ => exact wp_stk
  | .tup _ => exact wp_stk
theorem wp_eNot : wp (eNot a env) S Q = wp (a env) S (vBk fun k S1 => Q (.bl (!k)) S1) := by
  unfold eNot
  rw [wp_bind]
  congr 1
  funext x S1
  cases x <;> first | exact wp_stk | exact wp_ret
theorem wp_eIf : wp (eIf c a b env) S Q = wp (c env) S fun k S1 => if k = true then wp (a env) S1 Q else wp (b env) S1 Q := by
  unfold eIf
  rw [wp_bind]
  congr 1
  funext k S1
  cases k
  · rw [if_neg (by simp)]
  · rw [if_pos rfl]
theorem wp_aNil {QA : List CV → CH → Prop} : wp (aNil env) S QA = QA [] S := wp_eq rfl
theorem wp_aCons {QA : List CV → CH → Prop} : wp (aCons a r env) S QA = wp (a env) S fun x S1 => wp (r env) S1 fun xs S2 => QA (x :: xs) S2 := by
  unfold aCons
  simp only [wp_bind, wp_ret]
theorem wp_eTup : wp (eTup r env) S Q = wp (r env) S fun xs S1 => xs.length ≤ sizeLine ∧ Q (.tup xs) S1 := by
  unfold eTup
  simp only [wp_bind, wp_grd, wp_ret]
theorem wp_eLst : wp (eLst r env) S Q = wp (r env) S fun xs S1 => xs.length ≤ sizeLine ∧ Q (.ref S1.length) (S1 ++ [.lst xs]) := by
  unfold eLst
  simp only [wp_bind, wp_grd, wp_new]
theorem wp_ixR {n : Nat} {i : Int} : wp (vIx (.ref n) (.int i)) S Q = optW (lstOf S[n]?) fun xs => optW (atI xs i) fun c => Q c S := by
  cases e1 : lstOf S[n]? with
  | none => exact wp_not (by intro a b; unfold vIx; dsimp only; rw [e1]; nofun)
  | some xs =>
    cases e2 : atI xs i with
    | none => exact (wp_not (by intro a b; unfold vIx; dsimp only; rw [e1]; dsimp only; rw [e2]; nofun)).trans (by rw [optW_some, e2]; rfl)
    | some c => exact (wp_eq (by unfold vIx; dsimp only; rw [e1]; dsimp only; rw [e2])).trans (by rw [optW_some, e2]; rfl)
theorem wp_ixT {xs : List CV} {i : Int} : wp (vIx (.tup xs) (.int i)) S Q = optW (atI xs i) fun c => Q c S := by
  cases e2 : atI xs i with
  | none => exact wp_not (by intro a b; unfold vIx; dsimp only; rw [e2]; nofun)
  | some c => exact wp_eq (by unfold vIx; dsimp only; rw [e2]; rfl)
theorem wp_eSl {l h : Env → M (Option Int)} : wp (eSl a l h env) S Q = wp (a env) S fun x S1 => wp (l env) S1 fun lo S2 => wp (h env) S2 fun hi S3 => wp (vSl x lo hi) S3 Q := by
  unfold eSl
  simp only [wp_bind]
theorem wp_oNone {QO : Option Int → CH → Prop} : wp (oNone env) S QO = QO none S := wp_eq rfl
theorem wp_oSome {QO : Option Int → CH → Prop} : wp (oSome a env) S QO = wp (a env) S fun x S1 => match x with
    | .int i => QO (some i) S1
    | _ => False := by
  unfold oSome
  rw [wp_bind]
  congr 1
  funext x S1
  cases x <;> first | exact wp_stk | exact wp_ret
theorem wp_slT {xs : List CV} {lo hi : Option Int} : wp (vSl (.tup xs) lo hi) S Q = Q (.tup (cutL xs lo hi)) S := wp_eq rfl
theorem wp_slR {n : Nat} {lo hi : Option Int} : wp (vSl (.ref n) lo hi) S Q = optW (lstOf S[n]?) fun xs => Q (.ref S.length) (S ++ [.lst (cutL xs lo hi)]) := by
  cases e1 : lstOf S[n]? with
  | none => exact wp_not (by intro a b; unfold vSl; dsimp only; rw [e1]; nofun)
  | some xs => exact wp_eq (by unfold vSl; dsimp only; rw [e1]; rfl)
theorem wp_eRev : wp (eRev a env) S Q = wp (a env) S fun x S1 => wp (vRev x) S1 Q := by
  unfold eRev
  rw [wp_bind]
theorem wp_revT {xs : List CV} : wp (vRev (.tup xs)) S Q = Q (.tup xs.reverse) S := wp_eq rfl
theorem wp_revR {n : Nat} : wp (vRev (.ref n)) S Q = optW (lstOf S[n]?) fun xs => Q (.ref S.length) (S ++ [.lst xs.reverse]) := by
  cases e1 : lstOf S[n]? with
  | none => exact wp_not (by intro a b; unfold vRev; dsimp only; rw [e1]; nofun)
  | some xs => exact wp_eq (by unfold vRev; dsimp only; rw [e1]; rfl)
theorem wp_eCl {f : List CV → M CV} : wp (eCl f r env) S Q = wp (r env) S fun xs S1 => wp (f xs) S1 Q := by
  unfold eCl
  rw [wp_bind]
theorem wp_lenT {xs : List CV} : wp (vLen [.tup xs]) S Q = Q (.int xs.length) S := wp_eq rfl
theorem wp_lenR {n : Nat} {xs : List CV} (h : lstOf S[n]? = some xs) : wp (vLen [.ref n]) S Q = Q (.int xs.length) S := by
  refine wp_eq ?_
  unfold vLen
  dsimp only
  cases e : S[n]? with
  | none =>
    rw [e] at h
    cases h
  | some o =>
    rw [e] at h
    cases o <;> cases h <;> rfl
theorem wp_int {i : Int} : wp (vInt [.int i]) S Q = Q (.int i) S := wp_eq rfl
theorem wp_abs {i : Int} : wp (vAbs [.int i]) S Q = Q (.int (if i < 0 then -i else i)) S := wp_eq rfl
theorem wp_min {i j : Int} : wp (vMin2 [.int i, .int j]) S Q = Q (.int (if j < i then j else i)) S := wp_eq rfl
theorem wp_max {i j : Int} : wp (vMax2 [.int i, .int j]) S Q = Q (.int (if j > i then j else i)) S := wp_eq rfl
theorem wp_listT {xs : List CV} : wp (vList [.tup xs]) S Q = Q (.ref S.length) (S ++ [.lst xs]) := wp_eq rfl
theorem wp_listR {n : Nat} : wp (vList [.ref n]) S Q = optW (lstOf S[n]?) fun xs => Q (.ref S.length) (S ++ [.lst xs]) := by
  cases e1 : lstOf S[n]? with
  | none => exact wp_not (by intro a b; unfold vList; dsimp only; rw [e1]; nofun)
  | some xs => exact wp_eq (by unfold vList; dsimp only; rw [e1]; rfl)
theorem wp_tupleT {xs : List CV} : wp (vTuple [.tup xs]) S Q = Q (.tup xs) S := wp_eq rfl
theorem wp_tupleR {n : Nat} : wp (vTuple [.ref n]) S Q = optW (lstOf S[n]?) fun xs => Q (.tup xs) S := by
  cases e1 : lstOf S[n]? with
  | none => exact wp_not (by intro a b; unfold vTuple; dsimp only; rw [e1]; nofun)
  | some xs => exact wp_eq (by unfold vTuple; dsimp only; rw [e1])
theorem wp_sortedR {n : Nat} {ns : List Int} (h : lstOf S[n]? = some (ns.map CV.int)) : wp (vSorted [.ref n]) S Q = Q (.ref S.length) (S ++ [.lst ((sortI ns).map CV.int)]) := by
  refine wp_eq ?_
  unfold vSorted
  dsimp only
  rw [h]
  dsimp only
  rw [mapO_of_ints]
  rfl
theorem wp_eIsi {n : String} : wp (eIsi n a env) S Q = wp (a env) S fun x S1 => optW (tyn S1 x) fun t => optW (kitB t n) fun k => Q (.bl k) S1 := by
  unfold eIsi
  rw [wp_bind]
  congr 1
  funext x S1
  cases e1 : tyn S1 x with
  | none => exact wp_not (by intro a b; unfold vIsi; rw [e1]; nofun)
  | some t =>
    cases e2 : kitB t n with
    | none => exact (wp_not (by intro a b; unfold vIsi; rw [e1]; dsimp only; rw [e2]; nofun)).trans (by rw [optW_some, e2]; rfl)
    | some k => exact (wp_eq (by unfold vIsi; rw [e1]; dsimp only; rw [e2])).trans (by rw [optW_some, e2]; rfl)
theorem wp_eIsi2 {n m : String} : wp (eIsi2 n m a env) S Q = wp (a env) S fun x S1 => optW (tyn S1 x) fun t => optW (kit2 t n m) fun k => Q (.bl k) S1 := by
  unfold eIsi2
  rw [wp_bind]
  congr 1
  funext x S1
  cases e1 : tyn S1 x with
  | none => exact wp_not (by intro a b; unfold vIsi2; rw [e1]; nofun)
  | some t =>
    cases e2 : kit2 t n m with
    | none => exact (wp_not (by intro a b; unfold vIsi2; rw [e1]; dsimp only; rw [e2]; nofun)).trans (by rw [optW_some, e2]; rfl)
    | some k => exact (wp_eq (by unfold vIsi2; rw [e1]; dsimp only; rw [e2])).trans (by rw [optW_some, e2]; rfl)
theorem wp_eApp : wp (eApp a b env) S Q = wp (a env) S fun x S1 => wp (isLst x) S1 fun _ S2 => wp (b env) S2 fun v S3 => wp (vApp v x) S3 Q := by
  unfold eApp
  simp only [wp_bind]
theorem wp_isLst {n : Nat} {xs : List CV} {QU : Unit → CH → Prop} (h : S[n]? = some (.lst xs)) : wp (isLst (.ref n)) S QU = QU () S := wp_eq (by unfold isLst; dsimp only; rw [h])
theorem wp_vApp {n : Nat} {xs : List CV} {v : CV} (h : S[n]? = some (.lst xs)) : wp (vApp v (.ref n)) S Q = (xs.length < sizeLine ∧ Q .non (S.set n (.lst (xs ++ [v])))) := by
  have e : vApp v (.ref n) S = M.grd (xs.length < sizeLine) (fun S => .ok .non (S.set n (.lst (xs ++ [v])))) S := by
    unfold vApp
    dsimp only
    rw [h]
  by_cases hz : xs.length < sizeLine
  · rw [wp_eq (a := CV.non) (S' := S.set n (.lst (xs ++ [v]))) (by rw [e]; unfold M.grd; rw [if_pos hz])]
    exact propext ⟨fun q => ⟨hz, q⟩, fun q => q.2⟩
  · rw [wp_not (by intro a b; rw [e]; unfold M.grd; rw [if_neg hz]; nofun)]
    exact propext ⟨fun q => q.elim, fun q => hz q.1⟩
theorem wp_fun {k n : Nat} {body : Env → M Fl} {args : List CV} (h : args.length = k) : wp (mFun k n body args) S Q = wp (body (args.map some ++ List.replicate (n - args.length) none)) S fun fl S1 => match fl with
    | .ret v => Q v S1
    | .nx _ => Q .non S1
    | _ => False := by
  unfold mFun
  rw [if_pos h, wp_bind]
  congr 1
  funext fl S1
  cases fl <;> first | exact wp_stk | exact wp_ret

/-- what a def's end hands on -/
def fnQ (Q : CV → CH → Prop) : Fl → CH → Prop := fun fl S => match fl with
  | .ret v => Q v S
  | .nx _ => Q .non S
  | _ => False
theorem fnQ_ret {v : CV} : fnQ Q (.ret v) S = Q v S := rfl
theorem fnQ_nx {env1 : Env} : fnQ Q (.nx env1) S = Q .non S := rfl
theorem wp_fn {k n : Nat} {body : Env → M Fl} {args : List CV} (h : args.length = k) (q : wp (body (args.map some ++ List.replicate (n - args.length) none)) S (fnQ Q)) : wp (mFun k n body args) S Q := by
  rw [wp_fun h]
  refine wp_mono q fun fl S1 q1 => ?_
  cases fl <;> exact q1

/-! ### statements -/
variable {sa sb : Env → M Fl} {QF : Fl → CH → Prop}
theorem wp_sNil : wp (sNil env) S QF = QF (.nx env) S := wp_eq rfl
theorem wp_sSeq : wp (sSeq sa sb env) S QF = wp (sa env) S fun f S1 => match f with
    | .nx env1 => wp (sb env1) S1 QF
    | f => QF f S1 := by
  unfold sSeq
  rw [wp_bind]
  congr 1
  funext f S1
  cases f <;> first | rfl | exact wp_ret
theorem wp_sExpr : wp (sExpr a env) S QF = wp (a env) S fun _ S1 => QF (.nx env) S1 := by
  unfold sExpr
  simp only [wp_bind, wp_ret]
theorem wp_sRet : wp (sRet a env) S QF = wp (a env) S fun v S1 => QF (.ret v) S1 := by
  unfold sRet
  simp only [wp_bind, wp_ret]
theorem wp_sRetN : wp (sRetN env) S QF = QF (.ret .non) S := wp_eq rfl
theorem wp_sStk : wp (sStk env) S QF = False := wp_stk
theorem wp_sIf : wp (sIf c sa sb env) S QF = wp (c env) S fun k S1 => if k = true then wp (sa env) S1 QF else wp (sb env) S1 QF := by
  unfold sIf
  rw [wp_bind]
  congr 1
  funext k S1
  cases k
  · rw [if_neg (by simp)]
  · rw [if_pos rfl]
theorem wp_sAsg {g : CV → Env → M Env} : wp (sAsg a g env) S QF = wp (a env) S fun v S1 => wp (g v env) S1 fun env1 S2 => QF (.nx env1) S2 := by
  unfold sAsg
  simp only [wp_bind, wp_ret]
theorem wp_gN {i : Nat} {v : CV} {QE : Env → CH → Prop} : wp (gN i v env) S QE = QE (env.set i (some v)) S := wp_eq rfl
theorem wp_gSet {v : CV} {QE : Env → CH → Prop} : wp (gSet a b v env) S QE = wp (a env) S fun x S1 => wp (b env) S1 fun y S2 => wp (vSet v x y) S2 fun _ S3 => QE env S3 := by
  unfold gSet
  simp only [wp_bind, wp_ret]
theorem wp_vSet {v : CV} {n : Nat} {k : Int} {xs : List CV} {QU : Unit → CH → Prop} (h : S[n]? = some (.lst xs)) : wp (vSet v (.ref n) (.int k)) S QU = optW (ixN xs.length k) fun j => QU () (S.set n (.lst (xs.set j v))) := by
  cases e : ixN xs.length k with
  | none => exact wp_not (by intro a b; unfold vSet; dsimp only; rw [h]; dsimp only; rw [e]; nofun)
  | some j => exact wp_eq (by unfold vSet; dsimp only; rw [h]; dsimp only; rw [e])
theorem wp_gT {n : Nat} {t : List CV → Env → M Env} {xs : List CV} {QE : Env → CH → Prop} : wp (gT n t (.tup xs) env) S QE = (xs.length = n ∧ wp (t xs env) S QE) := wp_grd
theorem wp_gsNil {QE : Env → CH → Prop} : wp (gsNil [] env) S QE = QE env S := wp_eq rfl
theorem wp_gsCons {t : CV → Env → M Env} {u : List CV → Env → M Env} {x : CV} {r : List CV} {QE : Env → CH → Prop} : wp (gsCons t u (x :: r) env) S QE = wp (t x env) S fun env1 S1 => wp (u r env1) S1 QE := wp_bind
theorem wp_iSeq {QI : CI → CH → Prop} : wp (iSeq a env) S QI = wp (a env) S fun x S1 => wp (vIt x) S1 QI := by
  unfold iSeq
  rw [wp_bind]
theorem wp_itT {xs : List CV} {QI : CI → CH → Prop} : wp (vIt (.tup xs)) S QI = QI (.tup xs) S := wp_eq rfl
theorem wp_itR {n : Nat} {xs : List CV} {QI : CI → CH → Prop} (h : lstOf S[n]? = some xs) : wp (vIt (.ref n)) S QI = QI (.lst n) S := wp_eq (by unfold vIt; dsimp only; rw [h])
theorem wp_iCl {f : List CV → M CI} {QI : CI → CH → Prop} : wp (iCl f r env) S QI = wp (r env) S fun xs S1 => wp (f xs) S1 QI := by
  unfold iCl
  rw [wp_bind]
theorem wp_R1 {j : Int} {QI : CI → CH → Prop} : wp (vR1 [.int j]) S QI = ((-(2 ^ 62) ≤ j ∧ j < 2 ^ 62) ∧ QI (.rng 0 j.toNat) S) := by
  show wp (M.grd _ _) S QI = _
  rw [wp_grd, wp_ret]
theorem wp_R2 {i j : Int} {QI : CI → CH → Prop} : wp (vR2 [.int i, .int j]) S QI = ((-(2 ^ 62) ≤ i ∧ i < 2 ^ 62 ∧ -(2 ^ 62) ≤ j ∧ j < 2 ^ 62) ∧ QI (.rng i (j - i).toNat) S) := by
  show wp (M.grd _ _) S QI = _
  rw [wp_grd, wp_ret]
theorem wp_enT {xs : List CV} {QI : CI → CH → Prop} : wp (vEn [.tup xs]) S QI = QI (.enT xs) S := wp_eq rfl
theorem wp_enR {n : Nat} {xs : List CV} {QI : CI → CH → Prop} (h : lstOf S[n]? = some xs) : wp (vEn [.ref n]) S QI = QI (.enL n) S := wp_eq (by unfold vEn; dsimp only; rw [h])
/-- for, by an invariant: k turns -/
theorem wp_forGo {ci : CI} {g : CV → Env → M Env} {body : Env → M Fl} {Q : Fl → CH → Prop} (I : Nat → Env → CH → Prop) {n : Nat}
    (hs : ∀ i env S, i < n → I i env S → ∃ c, ci.get S i = some c ∧ wp (g c env) S fun env1 S1 => wp (body env1) S1 fun f S2 => match f with
      | .nx e => I (i + 1) e S2
      | .ct e => I (i + 1) e S2
      | .brk e => Q (.nx e) S2
      | .ret v => Q (.ret v) S2)
    (hd : ∀ env S, I n env S → ci.len S = some n ∧ Q (.nx env) S) : ∀ (k i : Nat) (env : Env) (S : CH), i + k = n → I i env S → wp (forGo ci g body k i env) S Q
  | 0, i, env, S, hk, h => by
    have e : i = n := by omega
    subst e
    obtain ⟨h1, h2⟩ := hd env S h
    exact ⟨.nx env, S, by unfold forGo; rw [if_pos h1], h2⟩
  | k + 1, i, env, S, hk, h => by
    obtain ⟨c, e, hw⟩ := hs i env S (by omega) h
    have hh : wp ((g c env).bind fun env1 => (body env1).bind fun f => match f with
      | .nx env2 => forGo ci g body k (i + 1) env2
      | .ct env2 => forGo ci g body k (i + 1) env2
      | .brk env2 => M.ret (.nx env2)
      | .ret v => M.ret (.ret v)) S Q := by
      rw [wp_bind]
      refine wp_mono hw fun env1 S1 q => ?_
      rw [wp_bind]
      refine wp_mono q fun f S2 q2 => ?_
      cases f with
      | nx e2 => exact wp_forGo I hs hd k (i + 1) e2 S2 (by omega) q2
      | ct e2 => exact wp_forGo I hs hd k (i + 1) e2 S2 (by omega) q2
      | brk e2 =>
        rw [wp_ret]
        exact q2
      | ret v =>
        rw [wp_ret]
        exact q2
    obtain ⟨r, S', e1, q⟩ := hh
    exact ⟨r, S', by unfold forGo; rw [e]; exact e1, q⟩
theorem wp_sFor {it : Env → M CI} {g : CV → Env → M Env} {body : Env → M Fl} {Q : Fl → CH → Prop} : wp (sFor it g body env) S Q = wp (it env) S fun ci S1 => optW (ci.len S1) fun k => wp (forGo ci g body k 0 env) S1 Q := by
  unfold sFor
  rw [wp_bind]
  congr 1
  funext ci S1
  cases e : ci.len S1 with
  | none => exact wp_not (by intro a b; rw [e]; nofun)
  | some k =>
    rw [optW_some]
    unfold wp
    dsimp only
    rw [e]
theorem wp_whGo {c : Env → M Bool} {body : Env → M Fl} {Q : Fl → CH → Prop} (I : Nat → Env → CH → Prop)
    (hs : ∀ n env S, I n env S → wp (c env) S fun k S1 => if k = true then 0 < n ∧ wp (body env) S1 fun f S2 => (match f with
      | .nx e => ∃ m, m < n ∧ I m e S2
      | .ct e => ∃ m, m < n ∧ I m e S2
      | .brk e => Q (.nx e) S2
      | .ret v => Q (.ret v) S2) else Q (.nx env) S1) : ∀ (f n : Nat) (env : Env) (S : CH), n < f → I n env S → wp (whGo c body f env) S Q
  | 0, n, env, S, hf, h => by omega
  | f + 1, n, env, S, hf, h => by
    unfold whGo
    rw [wp_bind]
    refine wp_mono (hs n env S h) fun k S1 q => ?_
    cases k with
    | false =>
      rw [if_neg (by simp)] at q
      rw [wp_ret]
      exact q
    | true =>
      rw [if_pos rfl] at q
      rw [wp_bind]
      refine wp_mono q.2 fun fl S2 q2 => ?_
      cases fl with
      | nx e2 =>
        obtain ⟨m, hm, q2⟩ := q2
        exact wp_whGo I hs f m e2 S2 (by omega) q2
      | ct e2 =>
        obtain ⟨m, hm, q2⟩ := q2
        exact wp_whGo I hs f m e2 S2 (by omega) q2
      | brk e2 =>
        rw [wp_ret]
        exact q2
      | ret v =>
        rw [wp_ret]
        exact q2
theorem wp_sWhile {c : Env → M Bool} {body : Env → M Fl} {Q : Fl → CH → Prop} (I : Nat → Env → CH → Prop) {n : Nat} (h0 : I n env S) (hn : n < wFuel)
    (hs : ∀ n env S, I n env S → wp (c env) S fun k S1 => if k = true then 0 < n ∧ wp (body env) S1 fun f S2 => (match f with
      | .nx e => ∃ m, m < n ∧ I m e S2
      | .ct e => ∃ m, m < n ∧ I m e S2
      | .brk e => Q (.nx e) S2
      | .ret v => Q (.ret v) S2) else Q (.nx env) S1) : wp (sWhile wFuel c body env) S Q := wp_whGo I hs wFuel n env S hn h0
/-- a comprehension, by an invariant: m turns behind one another; n the list's number -/
theorem wp_lcGo {ci : CI} {vs : List Nat} {g : CV → Env → M Env} {cd : Env → M Bool} {elt : Env → M CV} {Q : CV → CH → Prop} {m n : Nat} (I : Nat → CH → Prop)
    (hs : ∀ i S, i < m → I i S → ∃ c, ci.get S i = some c ∧ wp (g c (wipeE env vs)) S fun env1 S1 => wp (cd env1) S1 fun b S2 => if b = true then wp (elt env1) S2 fun y S3 => wp (vApp y (.ref n)) S3 fun _ S4 => I (i + 1) S4 else I (i + 1) S2)
    (hd : ∀ S, I m S → ci.len S = some m ∧ Q (.ref n) S) : ∀ (k i : Nat) (S : CH), i + k = m → I i S → wp (lcGo ci vs env g cd elt n k i) S Q
  | 0, i, S, hk, h => by
    have e : i = m := by omega
    subst e
    obtain ⟨h1, h2⟩ := hd S h
    exact ⟨.ref n, S, by unfold lcGo; rw [if_pos h1], h2⟩
  | k + 1, i, S, hk, h => by
    obtain ⟨c, e, hw⟩ := hs i S (by omega) h
    have hh : wp ((g c (wipeE env vs)).nox.bind fun env1 => (cd env1).nox.bind fun b => match b with
      | true => (elt env1).nox.bind fun y => (vApp y (.ref n)).bind fun _ => lcGo ci vs env g cd elt n k (i + 1)
      | false => lcGo ci vs env g cd elt n k (i + 1)) S Q := by
      rw [wp_bind, wp_nox]
      refine wp_mono hw fun env1 S1 q => ?_
      rw [wp_bind, wp_nox]
      refine wp_mono q fun b S2 q2 => ?_
      cases b with
      | false =>
        rw [if_neg (by simp)] at q2
        exact wp_lcGo I hs hd k (i + 1) S2 (by omega) q2
      | true =>
        rw [if_pos rfl] at q2
        rw [wp_bind, wp_nox]
        refine wp_mono q2 fun y S3 q3 => ?_
        rw [wp_bind]
        refine wp_mono q3 fun _ S4 q4 => ?_
        exact wp_lcGo I hs hd k (i + 1) S4 (by omega) q4
    obtain ⟨r, S', e1, q⟩ := hh
    exact ⟨r, S', by unfold lcGo; rw [e]; exact e1, q⟩
theorem wp_eLc {it : Env → M CI} {vs : List Nat} {g : CV → Env → M Env} {cd : Env → M Bool} {elt : Env → M CV} : wp (eLc it vs g cd elt env) S Q = wp (it env) S fun ci S1 => optW (ci.len S1) fun k => wp (lcGo ci vs env g cd elt S1.length k 0) (S1 ++ [.lst []]) Q := by
  unfold eLc
  rw [wp_bind]
  congr 1
  funext ci S1
  cases e : ci.len S1 with
  | none => exact wp_not (by intro a b; rw [e]; nofun)
  | some k =>
    rw [optW_some]
    unfold wp
    dsimp only
    rw [e]
/-! ### with the look-up in the open -/
def mlst : Option CO → Option (List CV)
  | some (.lst xs) => some xs
  | _ => none
theorem mlst_lst {xs : List CV} : mlst (some (.lst xs)) = some xs := rfl
theorem lstOf_lst {xs : List CV} : lstOf (some (.lst xs)) = some xs := rfl
theorem lstOf_rol {xs : List CV} : lstOf (some (.rol xs)) = some xs := rfl
theorem mlst_some {o : Option CO} {xs : List CV} (h : mlst o = some xs) : o = some (.lst xs) := by
  match o, h with
  | some (.lst ys), h =>
    cases h
    rfl
theorem wo_vSet {v : CV} {n : Nat} {k : Int} {QU : Unit → CH → Prop} : wp (vSet v (.ref n) (.int k)) S QU = optW (mlst S[n]?) fun xs => optW (ixN xs.length k) fun j => QU () (S.set n (.lst (xs.set j v))) := by
  cases e : mlst S[n]? with
  | some xs => exact wp_vSet (mlst_some e)
  | none =>
    refine wp_not ?_
    intro a b
    unfold vSet
    dsimp only
    cases q : S[n]? with
    | none => intro z; cases z
    | some o =>
      rw [q] at e
      cases o <;> first | (cases e; done) | (intro z; cases z)
theorem wo_isLst {n : Nat} {QU : Unit → CH → Prop} : wp (isLst (.ref n)) S QU = optW (mlst S[n]?) fun _ => QU () S := by
  cases e : mlst S[n]? with
  | some xs => exact wp_isLst (mlst_some e)
  | none =>
    refine wp_not ?_
    intro a b
    unfold isLst
    dsimp only
    cases q : S[n]? with
    | none => intro z; cases z
    | some o =>
      rw [q] at e
      cases o <;> first | (cases e; done) | (intro z; cases z)
theorem wo_vApp {n : Nat} {v : CV} : wp (vApp v (.ref n)) S Q = optW (mlst S[n]?) fun xs => xs.length < sizeLine ∧ Q .non (S.set n (.lst (xs ++ [v]))) := by
  cases e : mlst S[n]? with
  | some xs => exact wp_vApp (mlst_some e)
  | none =>
    refine wp_not ?_
    intro a b
    unfold vApp
    dsimp only
    cases q : S[n]? with
    | none => intro z; cases z
    | some o =>
      rw [q] at e
      cases o <;> first | (cases e; done) | (intro z; cases z)
theorem wo_lenR {n : Nat} (h : lstOf S[n]? ≠ none) : wp (vLen [.ref n]) S Q = optW (lstOf S[n]?) fun xs => Q (.int xs.length) S := by
  cases e : lstOf S[n]? with
  | some xs => exact wp_lenR e
  | none => exact absurd e h
theorem wo_itR {n : Nat} {QI : CI → CH → Prop} : wp (vIt (.ref n)) S QI = optW (lstOf S[n]?) fun _ => QI (.lst n) S := by
  cases e : lstOf S[n]? with
  | some xs => exact wp_itR e
  | none => exact wp_not (by intro a b; unfold vIt; dsimp only; rw [e]; nofun)
theorem wo_enR {n : Nat} {QI : CI → CH → Prop} : wp (vEn [.ref n]) S QI = optW (lstOf S[n]?) fun _ => QI (.enL n) S := by
  cases e : lstOf S[n]? with
  | some xs => exact wp_enR e
  | none => exact wp_not (by intro a b; unfold vEn; dsimp only; rw [e]; nofun)
theorem mulOk_of {i j : Int} {a b : Nat} (ha : i.natAbs < 2 ^ a) (hb : j.natAbs < 2 ^ b) (h0 : 0 < a) (h1 : 0 < b) (h : a + b ≤ 1000000) : mulOk i j = true := decide_eq_true (wide_mul ha hb h0 h1 h)
theorem divOk_of {i j : Int} {b : Nat} (h : 0 < j) (hb : j.natAbs < 2 ^ b) (h0 : 0 < b) (h9 : b ≤ 9000) : divOk i j = true := by
  obtain ⟨h1, h2⟩ := wide_div (i := 0) h hb h0 h9
  exact Bool.and_eq_true_iff.mpr ⟨decide_eq_true h1, decide_eq_true h2⟩
theorem mul60 {i j : Int} (h1 : -1152921504606846976 < i) (h2 : i < 1152921504606846976) (h3 : -1152921504606846976 < j) (h4 : j < 1152921504606846976) : mulOk i j = true := by
  have e : (2 : Nat) ^ 60 = 1152921504606846976 := by decide
  exact mulOk_of (a := 60) (b := 60) (by rw [e]; omega) (by rw [e]; omega) (by decide) (by decide) (by decide)
theorem div64 {i j : Int} (h : 0 < j) (h1 : j < 18446744073709551616) : divOk i j = true := by
  have e : (2 : Nat) ^ 64 = 18446744073709551616 := by decide
  exact divOk_of (b := 64) h (by rw [e]; omega) (by decide) (by decide)
/-! ### data of whole numbers -/
theorem datK_int {i : Int} : datK S (.int i) = some (.int i) := by
  unfold datK
  rw [show dat S 70 (.int i) = some (.int i) from rfl]
  rfl
theorem datK_non : datK S .non = some .none := rfl
theorem datK_bl {k : Bool} : datK S (.bl k) = some (.bool k) := rfl
theorem wp_eqI {neg : Bool} {i j : Int} : wp (vEq neg (.int i) (.int j)) S Q = Q (.bl (neg != decide (i = j))) S := by
  rw [wp_vEq, datK_int, datK_int, optW_some, optW_some]
  have e : PyData.eqv (.int i) (.int j) = decide (i = j) := by
    rw [show PyData.eqv (.int i) (.int j) = (i == j) by simp [PyData.eqv]]
    exact dec_int.symm.trans (by by_cases q : i = j <;> simp [q])
  rw [e]
end
end G
end
section
set_option Elab.async false
set_option linter.all false
set_option maxRecDepth 100000
/-! G: dicts made, all and any of a list, is True. -/
namespace G
open PySem L2
section
variable {X : Cx} {C : Cl} {E : XK} {ρ : List Addr} {S : CH} {H : Hp}
variable {e tg : Expr} {es : List Expr} {pos : Pos} {vs : List Nat}
variable {mr : Env → M (List CV)}

/-! ### all, any -/
def blOf : CV → Option Bool
  | .bl b => some b
  | _ => none
theorem RVs.bls : ∀ {xs : List CV} {bs : List Bool} {vs : List V}, mapO blOf xs = some bs → RVs C.K ρ H xs vs → vs = bs.map V.bl
  | [], bs, _, e, .nil => by
    cases e
    rfl
  | x :: xs, bs, _, e, .cons h t => by
    unfold mapO at e
    cases e1 : blOf x with
    | none =>
      rw [e1] at e
      cases e
    | some d =>
      rw [e1] at e
      cases e2 : mapO blOf xs with
      | none =>
        rw [e2] at e
        cases e
      | some es =>
        rw [e2] at e
        cases e
        rw [RVs.bls e2 t]
        cases x <;> cases e1
        cases h
        rfl
def vBls (f : List Bool → Bool) : List CV → M CV := fun xs S => match xs with
  | [.ref n] => match lstOf S[n]? with
    | some ys => match mapO blOf ys with
      | some bs => .ok (.bl (f bs)) S
      | none => .stuck
    | none => .stuck
  | _ => .stuck
theorem cr_bls {f : List Bool → Bool} : CRl C E (fun vs H Q => ∃ (a : Addr) (bs : List Bool), vs = [V.ref a] ∧ SqL C.K H a (bs.map V.bl) ∧ Q (.bl (f bs)) H) (vBls f) := by
  intro ρ S H xs vs Q hs r h
  match xs, r, h with
  | [x], r, h =>
    obtain ⟨v, rfl, r1⟩ := r.one
    cases r1 with
    | @ref n p hp =>
      unfold vBls at h
      dsimp only at h
      cases q0 : lstOf S[n]? with
      | none =>
        rw [q0] at h
        exact h.elim
      | some ys =>
        rw [q0] at h
        dsimp only at h
        obtain ⟨us, g1, t⟩ := hs.seq hp q0
        cases q1 : mapO blOf ys with
        | none =>
          rw [q1] at h
          exact h.elim
        | some bs =>
          rw [q1] at h
          rw [RVs.bls q1 t] at g1
          exact ⟨p, bs, rfl, g1, MR.ret hs (.bl _) h⟩
    | _ => exact h.elim
  | [], _, h => exact h.elim
  | x :: y :: r, _, h => cases x <;> exact h.elim
def vAll : List CV → M CV := vBls fun bs => bs.all id
def vAny : List CV → M CV := vBls fun bs => bs.any id
theorem gall {p : Pos} (hc : X.calm = true) (hK : X.K = C.K) (hg : Gl X "all") (hm : X.mg "all" = none) (ha : PA X (e :: es) (tMA C mr E)) (he : starEach (e :: es) X.env = (false, eval e X.env) :: starEach es X.env := by rfl) (hpl : (backTo pos (starEach es X.env)).any (·.1) = false := by rfl) :
    PE X (.Call (.Name "all" p) (e :: es) [] pos) (tM C (eCl vAll mr) E) := gcb (cr_bls (f := fun bs => bs.all id)) (by have := cr_all hc; rw [hK] at this; exact this) hg hm (by decide +kernel) ha (by decide) (by decide) he hpl
theorem gany {p : Pos} (hc : X.calm = true) (hK : X.K = C.K) (hg : Gl X "any") (hm : X.mg "any" = none) (ha : PA X (e :: es) (tMA C mr E)) (he : starEach (e :: es) X.env = (false, eval e X.env) :: starEach es X.env := by rfl) (hpl : (backTo pos (starEach es X.env)).any (·.1) = false := by rfl) :
    PE X (.Call (.Name "any" p) (e :: es) [] pos) (tM C (eCl vAny mr) E) := gcb (cr_bls (f := fun bs => bs.any id)) (by have := cr_any hc; rw [hK] at this; exact this) hg hm (by decide +kernel) ha (by decide) (by decide) he hpl

/-! ### is True -/
def vIsB (neg : Bool) : CV → CV → M CV
  | .bl a, .bl b => M.ret (.bl (neg != decide (a = b)))
  | _, _ => M.stk
theorem br_isB : BR C E rIsB (vIsB false) := by
  intro ρ S H v w vv ww Q hs rv rw' h
  cases rv with
  | bl i =>
    cases rw' with
    | bl j =>
      refine ⟨i, j, rfl, rfl, ?_⟩
      have := MR.ret hs (.bl _) h
      rwa [Bool.false_bne] at this
    | _ => exact h.elim
  | _ => exact h.elim
theorem br_notB : BR C E rNotB (vIsB true) := by
  intro ρ S H v w vv ww Q hs rv rw' h
  cases rv with
  | bl i =>
    cases rw' with
    | bl j =>
      refine ⟨i, j, rfl, rfl, ?_⟩
      have := MR.ret hs (.bl _) h
      rwa [Bool.true_bne] at this
    | _ => exact h.elim
  | _ => exact h.elim

/-! ### dicts -/
def keyOf : CV → Option Key
  | .int i => some (.inl i)
  | .str z => some (.inr z)
  | _ => none
theorem RV.key {K : PySem.W.Frag} {x : CV} {v : V} {k : Key} (h : RV K ρ H x v) (e : keyOf x = some k) : v = kV k := by
  cases h <;> cases e <;> rfl
def putC (kvs : List (Key × CV)) (k : Key) (v : CV) : List (Key × CV) := if (kvs.any fun kv => decide (kv.1 = k)) = true then kvs.map (fun kv => if kv.1 = k then (kv.1, v) else kv) else kvs ++ [(k, v)]
theorem rk_any {α β : Type} {fs : List (Key × α)} {gs : List (Key × β)} {k : Key} (h : gs.map (·.1) = fs.map (·.1)) : (gs.any fun kv => decide (kv.1 = k)) = fs.any fun kv => decide (kv.1 = k) := by
  have : ∀ {γ : Type} (l : List (Key × γ)), (l.any fun kv => decide (kv.1 = k)) = (l.map (·.1)).any fun x => decide (x = k) := fun l => by
    rw [List.any_map]
    rfl
  rw [this, this, h]
theorem rk_map {K : PySem.W.Frag} {k : Key} {v : CV} {w : V} (r : RV K ρ H v w) : ∀ {fs : List (Key × CV)} {gs : List (Key × V)}, RK K ρ H fs gs → RK K ρ H (fs.map fun kv => if kv.1 = k then (kv.1, v) else kv) (gs.map fun kv => if kv.1 = k then (kv.1, w) else kv)
  | [], gs, h => by
    obtain ⟨h1, h2⟩ := h
    cases gs with
    | nil => exact ⟨rfl, .nil⟩
    | cons g gs => cases h1
  | f :: fs, gs, h => by
    obtain ⟨h1, h2⟩ := h
    cases gs with
    | nil => cases h1
    | cons g gs =>
      simp only [List.map_cons, List.cons.injEq] at h1 h2
      cases h2 with
      | cons h3 h4 =>
        obtain ⟨i1, i2⟩ := rk_map (k := k) r (fs := fs) (gs := gs) ⟨h1.2, h4⟩
        refine ⟨?_, ?_⟩
        · simp only [List.map_cons]
          rw [i1]
          congr 1
          rw [h1.1]
          split <;> simp [h1.1]
        · simp only [List.map_cons]
          refine .cons ?_ i2
          rw [h1.1]
          split
          · exact r
          · exact h3
theorem RK.put {K : PySem.W.Frag} {fs : List (Key × CV)} {gs : List (Key × V)} {k : Key} {v : CV} {w : V} (h : RK K ρ H fs gs) (r : RV K ρ H v w) : RK K ρ H (putC fs k v) (putK gs k w) := by
  unfold putC putK
  rw [rk_any h.1]
  split
  · exact rk_map r h
  · obtain ⟨h1, h2⟩ := h
    refine ⟨by simp [h1], ?_⟩
    rw [List.map_append, List.map_append]
    exact h2.append (.cons r .nil)
theorem RK.up {K : PySem.W.Frag} {ρ' : List Addr} {H' : Hp} {fs : List (Key × CV)} {gs : List (Key × V)} (x : Ext K ρ H ρ' H') (h : RK K ρ H fs gs) : RK K ρ' H' fs gs := ⟨h.1, h.2.up x⟩
theorem RK.nil {K : PySem.W.Frag} : RK K ρ H [] [] := ⟨rfl, .nil⟩
/-- {} -/
def eDNew : Env → M CV := fun _ => M.new (.dct [])
theorem gdnew : PE X (.Dict [] [] pos) (tM C eDNew E) := PE_imp pe_dnewK fun σ H Q ⟨ρ, S, env, hs, he, h⟩ p hp => by
  obtain ⟨s1, x1, e1⟩ := hs.push (u := .dK []) (o := .dct []) hp fun ρ' x' => ⟨[], upd_same, .nil⟩
  exact h _ _ _ x1 s1 (.ref e1)
/-- {k: v, ..}: the pairs, each key and value -/
def eDPairs : List ((Env → M CV) × (Env → M CV)) → Env → M (List (Key × CV))
  | [], _ => M.ret []
  | (a, b) :: r, env => (a env).bind fun x => (b env).bind fun y => (eDPairs r env).bind fun ps => match keyOf x with
    | some k => M.ret ((k, y) :: ps)
    | none => M.stk
def mergeC (kvs more : List (Key × CV)) : List (Key × CV) := more.foldl (fun acc kv => putC acc kv.1 kv.2) kvs
theorem RK.merge {K : PySem.W.Frag} : ∀ {ms : List (Key × CV)} {ns : List (Key × V)} {fs : List (Key × CV)} {gs : List (Key × V)}, RK K ρ H ms ns → RK K ρ H fs gs → RK K ρ H (mergeC fs ms) (mergeK gs ns)
  | [], ns, fs, gs, h, r => by
    obtain ⟨h1, h2⟩ := h
    cases ns with
    | nil => exact r
    | cons g gs => cases h1
  | m :: ms, ns, fs, gs, h, r => by
    obtain ⟨h1, h2⟩ := h
    cases ns with
    | nil => cases h1
    | cons g ns =>
      simp only [List.map_cons, List.cons.injEq] at h1 h2
      cases h2 with
      | cons h3 h4 =>
        show RK K ρ H (mergeC (putC fs m.1 m.2) ms) (mergeK (putK gs g.1 g.2) ns)
        rw [h1.1]
        exact RK.merge ⟨h1.2, h4⟩ (r.put h3)
def eDLit (ps : List ((Env → M CV) × (Env → M CV))) : Env → M CV := fun env S => ((eDPairs ps env).bind fun kvs S2 => match S2[S.length]? with
  | some (.dct []) => M.grd (kvs.length ≤ 15) (fun S3 => .ok (.ref S.length) (S3.set S.length (.dct (mergeC [] kvs)))) S2
  | _ => .stuck) (S ++ [.dct []])
def RP (C : Cl) (ρ : List Addr) (H : Hp) (a : List (Key × CV)) (b : List (V × V)) : Prop := ∃ gs : List (Key × V), b = gs.map (fun kv => (kV kv.1, kv.2)) ∧ RK C.K ρ H a gs
theorem prI : ∀ {ps : List ((Env → M CV) × (Env → M CV))} {ρ : List Addr} {S : CH} {H : Hp} {env : Env} {σ : L2.St} {Q : List (V × V) → Hp → Prop}, SR C ρ S H → RE C.K ρ H env σ → MR C ρ H (RP C) (eDPairs ps env S) Q E → tPairs (ps.map fun p => (tM C p.1 E, tM C p.2 E)) σ H Q
  | [], ρ, S, H, env, σ, Q, hs, he, h => h ρ H [] .refl hs ⟨[], rfl, .nil⟩
  | (a, b) :: r, ρ, S, H, env, σ, Q, hs, he, h => by
    refine ⟨ρ, S, env, hs, he, MR.bind (R := RV C.K) h fun x S1 ρ1 H1 xx x1 s1 r1 h1 => ?_⟩
    refine ⟨ρ1, S1, env, s1, he.up x1, MR.bind (R := RV C.K) h1 fun y S2 ρ2 H2 yy x2 s2 r2 h2 => ?_⟩
    refine prI (env := env) s2 ((he.up x1).up x2) (MR.bind (R := RP C) h2 fun kvs S3 ρ3 H3 qs x3 s3 r3 h3 => ?_)
    obtain ⟨gs, rfl, r3⟩ := r3
    cases q : keyOf x with
    | none =>
      rw [q] at h3
      exact h3.elim
    | some k =>
      rw [q] at h3
      have ek := ((r1.up x2).up x3).key q
      refine h3 ρ3 H3 _ .refl s3 ⟨(k, yy) :: gs, by rw [ek]; rfl, ?_⟩
      exact ⟨by simp [r3.1], .cons (r2.up x3) r3.2⟩
theorem gdlit {keys : List (Option Expr)} {values : List Expr} {ps : List ((Env → M CV) × (Env → M CV))} (h : PPs X pos keys values (ps.map fun p => (tM C p.1 E, tM C p.2 E))) (hall : keys.all (·.isSome) = true) (hl : keys.length = values.length) (h0 : keys ≠ [])
    (h15 : keys.length ≤ 15) : PE X (.Dict keys values pos) (tM C (eDLit ps) E) := PE_imp (pe_disp h hall hl h0 h15) fun σ H Q ⟨ρ, S, env, hs, he, h⟩ p hp => by
  obtain ⟨s1, x1, e1⟩ := hs.push (u := .dK []) (o := .dct []) hp fun ρ' x' => ⟨[], upd_same, .nil⟩
  refine prI (env := env) s1 (he.up x1) (MR.bind (R := RP C) (MR.mono x1 h) fun kvs S2 ρ2 H2 qs x2 s2 r2 h2 => ?_)
  obtain ⟨gs, rfl, r2⟩ := r2
  have e2 : ρ2[S.length]? = some p := pre_get x2.1 e1
  obtain ⟨o, ho, ro⟩ := s2.cell e2
  rw [ho] at h2
  match o, ho, ro, h2 with
  | .dct [], ho, ro, h2 =>
    obtain ⟨g, hg, rg⟩ := ro
    have eg : g = [] := by
      have := rg.1
      cases g with
      | nil => rfl
      | cons _ _ => cases this
    subst eg
    dsimp only at h2
    obtain ⟨hz, h2⟩ := MR.grd h2
    have hl : gs.length ≤ 15 := by
      have := congrArg List.length r2.1
      simp at this
      omega
    refine ⟨hg, gs, rfl, hl, ?_⟩
    obtain ⟨s3, x3⟩ := s2.write (u := .dK (mergeK [] gs)) (o := .dct (mergeC [] kvs)) ho rfl rfl e2 hg rfl fun x' => ⟨_, upd_same, RK.merge (r2.up x') .nil⟩
    exact h2 _ _ _ x3 s3 (.ref e2)
  | .dct (_ :: _), _, _, h2 => exact h2.elim
  | .lst _, _, _, h2 => exact h2.elim
  | .rol _, _, _, h2 => exact h2.elim
  | .ins _ _, _, _, h2 => exact h2.elim
  | .dead, _, _, h2 => exact h2.elim
theorem gpnil : PPs X pos [] [] (([] : List ((Env → M CV) × (Env → M CV))).map fun p => (tM C p.1 E, tM C p.2 E)) := pps_nil
theorem gpcons {k v : Expr} {ks : List (Option Expr)} {ws : List Expr} {a b : Env → M CV} {ps : List ((Env → M CV) × (Env → M CV))} (ha : PE X k (tM C a E)) (hb : PE X v (tM C b E)) (hr : PPs X pos ks ws (ps.map fun p => (tM C p.1 E, tM C p.2 E))) :
    PPs X pos (some k :: ks) (v :: ws) (((a, b) :: ps).map fun p => (tM C p.1 E, tM C p.2 E)) := pps_cons ha hb hr
/-! ### a comprehension of a dict -/
def vPut (x y : CV) : CV → M CV
  | .ref n => fun S => match keyOf x, S[n]? with
    | some k, some (.dct kvs) => M.grd (kvs.length < sizeLine) (fun S => .ok .non (S.set n (.dct (putC kvs k y)))) S
    | _, _ => .stuck
  | _ => M.stk
def dcGo (ci : CI) (vs : List Nat) (env : Env) (g : CV → Env → M Env) (cd : Env → M Bool) (kx vx : Env → M CV) (n : Nat) : Nat → Nat → M CV
  | 0, i => fun S => if ci.len S = some i then .ok (.ref n) S else .stuck
  | k + 1, i => fun S => match ci.get S i with
    | some c => ((g c (wipeE env vs)).nox.bind fun env1 => (cd env1).nox.bind fun b => match b with
      | true => (kx env1).nox.bind fun x => (vx env1).nox.bind fun y => (vPut x y (.ref n)).bind fun _ => dcGo ci vs env g cd kx vx n k (i + 1)
      | false => dcGo ci vs env g cd kx vx n k (i + 1)) S
    | none => .stuck
def eDc (it : Env → M CI) (vs : List Nat) (g : CV → Env → M Env) (cd : Env → M Bool) (kx vx : Env → M CV) : Env → M CV := fun env => (it env).bind fun ci S => match ci.len S with
  | some k => dcGo ci vs env g cd kx vx S.length k 0 (S ++ [.dct []])
  | none => .stuck
theorem dcI {mi : Env → M CI} {mg1 : CV → Env → M Env} {mt : Env → M Bool} {mk mv : Env → M CV} {σ : L2.St} {Q : VK} (h : tM C (eDc mi vs mg1 mt mk mv) E σ H Q) : tDc (tMI C mi E) (tMG C vs mg1 E0) (tMB C mt E0) (tM C mk E0) (tM C mv E0) vs σ H Q := by
  obtain ⟨ρ, S, env, hs, he, h⟩ := h
  refine ⟨ρ, S, env, hs, he, h.bind fun ci S1 ρ1 H1 J x1 s1 r1 h1 => fun D hD => ?_⟩
  cases q : ci.len S1 with
  | none =>
    rw [q] at h1
    exact h1.elim
  | some k =>
    rw [q] at h1
    obtain ⟨sD, xD, eD⟩ := s1.push (u := .dK []) (o := .dct []) hD fun ρ' x' => ⟨[], upd_same, .nil⟩
    refine ⟨fun i m H => ∃ ρ S, SR C ρ S H ∧ Ext C.K (ρ1 ++ [D]) (upd H1 D (.dK [])) ρ H ∧ MR C ρ H (RV C.K) (dcGo ci vs env mg1 mt mk mv S1.length m i S) Q E, ⟨k, _, _, sD, .refl, MR.mono xD h1⟩, ?_⟩
    rintro i m H2 ⟨ρ2, S2, s2, x2, h2⟩
    have xx2 : Ext C.K ρ1 H1 ρ2 H2 := xD.trans x2
    have hn2 : ρ2[S1.length]? = some D := pre_get x2.1 eD
    obtain ⟨it1, it2⟩ := r1 ρ2 S2 H2 xx2 s2
    cases m with
    | zero =>
      unfold dcGo at h2
      by_cases hl : ci.len S2 = some i
      · rw [if_pos hl] at h2
        exact .inl ⟨it2 i hl, MR.ret s2 (.ref hn2) h2⟩
      · rw [if_neg hl] at h2
        exact h2.elim
    | succ m =>
      unfold dcGo at h2
      cases hg : ci.get S2 i with
      | none =>
        rw [hg] at h2
        exact h2.elim
      | some c =>
        rw [hg] at h2
        dsimp only at h2
        obtain ⟨go, yl⟩ := it1 i c hg
        refine .inr ⟨go, fun H' => ∃ ρ S, SR C ρ S H' ∧ Ext C.K (ρ1 ++ [D]) (upd H1 D (.dK [])) ρ H' ∧ MR C ρ H' (RV C.K) (dcGo ci vs env mg1 mt mk mv S1.length m (i + 1) S) Q E, fun H' h' => ⟨m, Nat.lt_succ_self _, h'⟩, fun x H3 hy => ?_⟩
        obtain ⟨s3, x3, r3⟩ := yl x H3 hy
        have ew : RE C.K ρ2 H3 (wipeE env vs) (wipe σ vs) := ((he.up x1).up (xx2.trans x3)).wipe vs
        refine ⟨ρ2, S2, wipeE env vs, c, s3, ew, r3, MR.bindN (MR.mono x3 h2) fun env4 S4 ρ4 H4 σ4 x4 s4 r4 h4 => ⟨r4.2.trans (wipe_wipe σ vs), ρ4, S4, env4, s4, r4.1, ?_⟩⟩
        refine MR.bindN h4 fun b S5 ρ5 H5 bb x5 s5 r5 h5 => ?_
        subst r5
        have y5 : Ext C.K (ρ1 ++ [D]) (upd H1 D (.dK [])) ρ5 H5 := x2.trans (x3.trans (x4.trans x5))
        cases b with
        | false => exact iteF ⟨ρ5, S5, s5, y5, h5⟩
        | true =>
          refine iteT ⟨ρ5, S5, env4, s5, r4.1.up x5, MR.bindN h5 fun x S5b ρ5b H5b xx x5b s5b r5b h5b => ⟨ρ5b, S5b, env4, s5b, (r4.1.up x5).up x5b, MR.bindN h5b fun y S6 ρ6 H6 yy x6 s6 r6 h6 => ?_⟩⟩
          have y6 := (y5.trans x5b).trans x6
          have hn6 : ρ6[S1.length]? = some D := pre_get y6.1 eD
          unfold M.bind vPut at h6
          dsimp only at h6
          cases hk : keyOf x with
          | none =>
            rw [hk] at h6
            exact h6.elim
          | some k =>
            rw [hk] at h6
            obtain ⟨o, ho, ro⟩ := s6.cell hn6
            rw [ho] at h6
            cases o with
            | dct kvs =>
              dsimp only at h6
              unfold M.grd at h6
              by_cases hz : kvs.length < sizeLine
              · rw [if_pos hz] at h6
                dsimp only at h6
                obtain ⟨us, g, t⟩ := ro
                obtain ⟨s7, x7⟩ := s6.write (u := .dK (putK us k yy)) (o := .dct (putC kvs k y)) ho rfl rfl hn6 g rfl fun x' => ⟨_, upd_same, (t.put r6).up x'⟩
                have hlen : us.length = kvs.length := by
                  have := congrArg List.length t.1
                  simpa using this
                exact ⟨us, k, (r5b.up x6).key hk, g, by rw [hlen]; exact hz, ρ6, _, s7, y6.trans x7, MR.mono x7 h6⟩
              · rw [if_neg hz] at h6
                exact h6.elim
            | _ => exact h6.elim
theorem gdc {kx vx iter : Expr} {ifs : List Expr} {scope : Scope} {own : List (Str × Nat)} {mi : Env → M CI} {mg1 : CV → Env → M Env} {mt : Env → M Bool} {mk mv : Env → M CV} (hc : X.calm = true) (hN : X.N.Nodup) (hi : PI X tg iter (tMI C mi E)) (ok : BlkOk X.N X.env.scope scope own) (hv : own.map (·.2) = vs)
    (hg : ∀ (s : Shared) (H : Hp) (Ca : Addr) (cl : List (Str × Addr)) (fp : List Addr), PG (X.blk s H scope (compEnvC scope cl Ca X.env) fp) tg (tMG C vs mg1 E0)) (ht : ∀ (s : Shared) (H : Hp) (Ca : Addr) (cl : List (Str × Addr)) (fp : List Addr), PTs (X.blk s H scope (compEnvC scope cl Ca X.env) fp) ifs (tMB C mt E0))
    (hk : ∀ (s : Shared) (H : Hp) (Ca : Addr) (cl : List (Str × Addr)) (fp : List Addr), PE (X.blk s H scope (compEnvC scope cl Ca X.env) fp) kx (tM C mk E0))
    (he : ∀ (s : Shared) (H : Hp) (Ca : Addr) (cl : List (Str × Addr)) (fp : List Addr), PE (X.blk s H scope (compEnvC scope cl Ca X.env) fp) vx (tM C mv E0)) (hs : ∀ x, foldedSetIterable iter X.env x = pure x := by intro _; rfl) :
    PE X (.DictComp kx vx [⟨tg, iter, ifs, 0⟩] scope pos) (tM C (eDc mi vs mg1 mt mk mv) E) := PE_imp (pe_dc hc hN hi ok hg ht hk he hs) fun σ H Q h => by
  rw [hv]
  exact dcI h
end
end G
end
section
set_option Elab.async false
set_option linter.all false
set_option maxRecDepth 100000
/-! G: x, y = a, b. -/
namespace G
open PySem L2
section
variable {X : Cx} {C : Cl} {E : XK} {ρ : List Addr} {S : CH} {H : Hp}
variable {pos : Pos} {mr : Env → M (List CV)}
def sPar (i j : Nat) (r : Env → M (List CV)) : Env → M Fl := fun env => (r env).bind fun vs => match vs with
  | [v, w] => M.ret (.nx ((env.set i (some v)).set j (some w)))
  | _ => M.stk
theorem xpar {i j : Nat} {x y : Str} {px py pt pt2 : Pos} {a b : Expr} {kt k2} (hc : X.calm = true) (hN : X.N.Nodup) (hi : X.N[i]? = some x) (hj : X.N[j]? = some y) (hij : i ≠ j) (hx : X.env.scope.names.lookup x = some .local) (hy : X.env.scope.names.lookup y = some .local)
    (ha : PA X [a, b] (tMA C mr E)) (hw : swappedStores [.Tuple [.Name x px, .Name y py] kt pt] (.Tuple [a, b] k2 pt2) X.env = pure (some [x, y])) : PS X (.Assign [.Tuple [.Name x px, .Name y py] kt pt] (.Tuple [a, b] k2 pt2) pos) (tMS C (sPar i j mr) E) :=
  PS_imp (ps_par hc hN hi hj hij hx hy ha hw) fun D σ H ⟨ρ, S, env, hs, he, h⟩ => ⟨ρ, S, env, hs, he, MF.bind (R := RVs C.K) h fun vs S1 ρ1 H1 ws x1 s1 r1 h1 => by
    match vs, ws, r1, h1 with
    | [], _, _, h1 => exact h1.elim
    | [_], _, _, h1 => exact h1.elim
    | [v, w], _, .cons r2 (.cons r3 .nil), h1 => exact ⟨_, _, rfl, h1 ρ1 H1 _ .refl s1 (((he.up x1).set r2 i).set r3 j)⟩
    | _ :: _ :: _ :: _, _, _, h1 => exact h1.elim⟩
end
end G
end
section
set_option Elab.async false
set_option linter.all false
set_option maxRecDepth 100000
set_option maxHeartbeats 4000000
/-! G, low: sorted of a tuple of ints. -/
namespace SrtO
open PySem PyProof.Rows Srt
section
variable {prog : Program} {w : World} {A : Around} {E : Value → Shared → Prop} {s : Shared}
theorem g_collectT {q : Addr} {ys : List Value} {R : List Value → Shared → Prop} (T : s.heap.IsTuple q ys.toArray)
    (k : R ys { s with heap := (s.heap.push (seqObj "list" #[] 0)).update s.heap.objs.size (Obj.mapSeq (· ++ ys.toArray)) }) (z : ys.length ≤ sizeLine) :
    wpAny (model prog w) A (collect (.ref q)) R E s := by
  obtain ⟨oq, g1, g2, m, g3⟩ := id T
  unfold collect
  refine (wpAny_bind (wpAny_runValue (codeAny_builtin entry_proto_collect' ?_)))
  show wpAny _ _ (do again (.builtin "list.__iadd__" ⟨[← newList [], .ref q], []⟩)) _ _ s
  refine (wpAny_bind (wpAny_newList (wpAny_pure ⟨Code.quiet_builtin _ (by decide +kernel), codeAny_builtin entry_list_iadd' ?_⟩)))
  show wpAny _ _ (Builtin.List.listExtendWith (.ref s.heap.objs.size) (.ref q) (.ref s.heap.objs.size)) _ _ { s with heap := s.heap.push (seqObj "list" #[] 0) }
  unfold Builtin.List.listExtendWith
  have g4 : (s.heap.push (seqObj "list" #[] 0)).get? q = some oq := Heap.get?_push_of_some _ g1
  refine (wpAny_bind (wpAny_typeOf (T := "tuple") ⟨oq, g4, g2⟩ ?_))
  have g5 : (Value.type "tuple" == Value.type "tuple") = true := by rfl
  rw [if_pos (show _ by rw [g5, Bool.or_true])]
  refine (wpAny_bind (listItems_at g4 g3 ?_))
  refine (wpAny_bind (listItems_at (n := 0) (xs := #[]) (Heap.get?_push_size _ rfl) rfl ?_))
  rw [if_neg (show ¬ _ by simp)]
  refine (wpAny_bind (listUpdate_at (n := 0) (xs := #[]) (Heap.get?_push_size _ rfl) rfl ?_ (Nat.zero_le _) (show (#[] ++ ys.toArray).size ≤ sizeLine + 1 by simp only [Array.size_append, List.size_toArray, List.length_nil]; omega)))
  refine (wpAny_pure ?_)
  show wpAny (model prog w) A (load s.heap.objs.size >>= fun o => match o.data with | .seq xs _ => pure xs.toList | _ => unsupported "internal:collect") R E { s with heap := (s.heap.push (seqObj "list" #[] 0)).update s.heap.objs.size (Obj.mapSeq (· ++ ys.toArray)) }
  refine (wpAny_bind (wpAny_load (get?_update_seq (Heap.get?_push_size _ rfl) _) ?_))
  show wpAny _ _ (pure ((#[] : Array Value) ++ ys.toArray).toList) R E _
  rw [show ((#[] : Array Value) ++ ys.toArray).toList = ys by simp]
  exact wpAny_pure k
theorem g_sortedT {q : Addr} {ys : List Value} {ltv : Value → Value → Bool} {R : Value → Shared → Prop} (O : Swo ltv) (T : s.heap.IsTuple q ys.toArray) (z : ys.length ≤ sizeLine)
    (hS : 2 ≤ ys.length → ∀ (h₁ : Heap) (a : Addr), h₁.get? a = some (seqObj "list" ys.toArray 0) → (∀ b o, s.heap.get? b = some o → b ≠ a ∧ h₁.get? b = some o) → SortableO prog w A.in1.in1 { s with heap := h₁ } a ys ltv)
    (k : ∀ out : List Value, Srtd ltv out → Stb ltv out ys → R (.ref (s.heap.objs.size + 1)) { s with heap := sortedAll s.heap ys out.toArray }) :
    wpAny (model prog w) A (call (.builtin "sorted") [.ref q]) R E s := by
  refine (Calls.call_function_entry kind_sorted plain_sorted entry_sorted (args_sorted1 _) ?_)
  unfold Builtin.«sorted»
  refine (wpAny_bind (m := checkCount "sorted" 1 1 _) (wpAny_pure ?_))
  refine (wpAny_bind (g_collectT T ?_ z))
  refine (wpAny_bind (wpAny_newList ?_ z))
  have u1 : ((s.heap.push (seqObj "list" #[] 0)).update s.heap.objs.size (Obj.mapSeq (· ++ ys.toArray))).objs.size = s.heap.objs.size + 1 := by
    rw [Heap.size_update, size_push']
  have u2 : (((s.heap.push (seqObj "list" #[] 0)).update s.heap.objs.size (Obj.mapSeq (· ++ ys.toArray))).push (seqObj "list" ys.toArray 0)).get? (s.heap.objs.size + 1) = some (seqObj "list" ys.toArray 0) := by
    rw [← u1]; exact Heap.get?_push_size _ rfl
  have u3 : ∀ b o, s.heap.get? b = some o → b ≠ s.heap.objs.size + 1 ∧ (((s.heap.push (seqObj "list" #[] 0)).update s.heap.objs.size (Obj.mapSeq (· ++ ys.toArray))).push (seqObj "list" ys.toArray 0)).get? b = some o := fun b o e => by
    have lt := Heap.lt_size e
    constructor
    · exact Nat.ne_of_lt (Nat.lt_succ_of_lt lt)
    · apply Heap.get?_push_of_some
      rw [Heap.get?_update_ne _ _ _ _ (Nat.ne_of_lt lt)]
      exact Heap.get?_push_of_some _ e
  show wpAny _ _ _ _ _ { s with heap := ((s.heap.push (seqObj "list" #[] 0)).update s.heap.objs.size (Obj.mapSeq (· ++ ys.toArray))).push (seqObj "list" ys.toArray 0) }
  rw [u1]
  refine (wpAny_bind (wpAny_holding (wpAny_call_entry slot_list_sort ⟨_, u2, rfl⟩ entry_list_sort (list_sort_ord O u2 z (fun e => hS e _ _ u2 u3) fun out a1 a2 => ⟨_, rfl, ?_⟩) (args_list_sort _))))
  exact wpAny_pure ⟨_, rfl, k out a1 a2⟩
end
end SrtO
namespace L2
open PySem
def rSortedTI (K : PySem.W.Frag) : List V → Hp → VK → Prop := fun vs H Q => ∃ (a : Addr) (ns : List Int), vs = [V.ref a] ∧ SqT K H a (ns.map V.int) ∧
  ∀ (ns' : List Int) (p : Addr), ns'.Perm ns → ns'.Pairwise (· ≤ ·) → H p = none → Q (.ref p) (upd H p (.lst (ns'.map V.int)))
theorem g_sortedTI {X : Cx} : CallR X (.builtin "sorted") (rSortedTI X.K) := by
  intro pins s σ H vs us Q I r h
  obtain ⟨a, ns, rfl, hs, q⟩ := h
  obtain ⟨its, rv, T, z⟩ := I.tuple hs
  rw [Vals.ref1 r]
  have ii := rv.ints
  apply SrtO.g_sortedT SrtO.swo_int T (show its.length ≤ sizeLine by rw [← rv.length]; exact z) (fun e h₁ a' _ _ => SrtO.ints_sortable ii e)
  intro out a1 a2
  obtain ⟨k1, k2, k3⟩ := SrtO.ints_out ii a1 a2
  obtain ⟨e1, e2⟩ := PyProof.Rows.sortedAll_at s.heap its out.toArray
  have z2 : ((out.map SrtO.iv).map V.int).length ≤ sizeLine := by
    rw [List.length_map, k2.length_eq]
    simpa using z
  refine ⟨.ref _, upd H (s.heap.objs.size + 1) (.lst ((out.map SrtO.iv).map V.int)), ?_, rfl, q _ _ k2 k3 (I.hok.fresh (Nat.le_succ _))⟩
  exact I.laid (t' := s.toks) (fun _ _ => PyProof.Rows.sortedAll_old) (Nat.le_succ _) ⟨z2, out, e1, vals_of_ints k1, e2⟩
end L2
namespace G
open PySem L2
section
variable {X : Cx} {C : Cl} {E : XK} {ρ : List Addr} {S : CH} {H : Hp}
variable {e : Expr} {es : List Expr} {pos : Pos}
variable {mr : Env → M (List CV)}
/-- sorted of a list or a tuple of ints -/
def vSortA : List CV → M CV := fun xs S => match xs with
  | [.tup ys] => match mapO intOf ys with
    | some ns => M.new (.lst ((sortI ns).map CV.int)) S
    | none => .stuck
  | _ => vSorted xs S
theorem cr_sortA : CRl C E (fun xs H Q => rSortedI C.K xs H Q ∨ rSortedTI C.K xs H Q) vSortA := by
  intro ρ S H xs vs Q hs r h
  have old : MR C ρ H (RV C.K) (vSorted xs S) Q E → rSortedI C.K vs H Q ∨ rSortedTI C.K vs H Q := fun h => .inl (cr_sorted ρ S H xs vs Q hs r h)
  unfold vSortA at h
  match xs, r, h, old with
  | [.tup ys], r, h, _ =>
    obtain ⟨v, rfl, r1⟩ := r.one
    cases r1 with
    | @tup _ us p hp t =>
      dsimp only at h
      cases q1 : mapO intOf ys with
      | none =>
        rw [q1] at h
        exact h.elim
      | some ns =>
        rw [q1] at h
        have e1 := mapO_ints q1
        subst e1
        have e2 := t.ints_inv
        subst e2
        refine .inr ⟨p, ns, rfl, hp, fun ns' l hp hw hl => ?_⟩
        have e3 : ns' = sortI ns := PySem.W.ksm_same (hp.trans (sortI_perm ns).symm) hw (sortI_pair ns)
        rw [e3]
        exact MR.newL hs (RVs.ints _) h l hl
  | [], r, h, old => exact old h
  | [.non], r, h, old => exact old h
  | [.bl _], r, h, old => exact old h
  | [.int _], r, h, old => exact old h
  | [.str _], r, h, old => exact old h
  | [.ref _], r, h, old => exact old h
  | x :: _ :: _, r, h, old => cases x <;> exact old h
theorem gsortA {p : Pos} (hK : X.K = C.K) (hg : Gl X "sorted") (hm : X.mg "sorted" = none) (ha : PA X (e :: es) (tMA C mr E)) (he : starEach (e :: es) X.env = (false, eval e X.env) :: starEach es X.env := by rfl) (hpl : (backTo pos (starEach es X.env)).any (·.1) = false := by rfl) :
    PE X (.Call (.Name "sorted" p) (e :: es) [] pos) (tM C (eCl vSortA mr) E) := gcb cr_sortA (by rw [← hK]; exact cr_sortedI.or g_sortedTI) hg hm (by decide +kernel) ha (by decide) (by decide) he hpl
end
end G
end
section
set_option Elab.async false
set_option linter.all false
set_option maxRecDepth 100000
/-! G: wp of the later words. -/
namespace G
open PySem L2
section
variable {S : CH} {Q : CV → CH → Prop} {env : Env} {a b : Env → M CV} {r : Env → M (List CV)}
theorem wp_sortT {ns : List Int} : wp (vSortA [.tup (ns.map CV.int)]) S Q = Q (.ref S.length) (S ++ [.lst ((sortI ns).map CV.int)]) := by
  refine wp_eq ?_
  unfold vSortA
  dsimp only
  rw [mapO_of_ints]
  rfl
theorem wp_sortR {n : Nat} {ns : List Int} (h : lstOf S[n]? = some (ns.map CV.int)) : wp (vSortA [.ref n]) S Q = Q (.ref S.length) (S ++ [.lst ((sortI ns).map CV.int)]) := wp_sortedR h
theorem mapO_bls : ∀ bs : List Bool, mapO blOf (bs.map CV.bl) = some bs
  | [] => rfl
  | n :: ns => by
    rw [List.map_cons]
    unfold mapO
    rw [mapO_bls ns]
    rfl
theorem wp_bls {f : List Bool → Bool} {n : Nat} {bs : List Bool} (h : lstOf S[n]? = some (bs.map CV.bl)) : wp (vBls f [.ref n]) S Q = Q (.bl (f bs)) S := by
  refine wp_eq ?_
  unfold vBls
  dsimp only
  rw [h]
  dsimp only
  rw [mapO_bls]
theorem wp_all {n : Nat} {bs : List Bool} (h : lstOf S[n]? = some (bs.map CV.bl)) : wp (vAll [.ref n]) S Q = Q (.bl (bs.all id)) S := wp_bls h
theorem wp_any {n : Nat} {bs : List Bool} (h : lstOf S[n]? = some (bs.map CV.bl)) : wp (vAny [.ref n]) S Q = Q (.bl (bs.any id)) S := wp_bls h
theorem wp_isB {neg k l : Bool} : wp (vIsB neg (.bl k) (.bl l)) S Q = Q (.bl (neg != decide (k = l))) S := wp_eq rfl
theorem wp_dnew : wp (eDNew env) S Q = Q (.ref S.length) (S ++ [.dct []]) := wp_new
theorem wp_sPar {i j : Nat} {QF : Fl → CH → Prop} : wp (sPar i j r env) S QF = wp (r env) S fun vs S1 => match vs with
    | [v, w] => QF (.nx ((env.set i (some v)).set j (some w))) S1
    | _ => False := by
  unfold sPar
  rw [wp_bind]
  congr 1
  funext vs S1
  match vs with
  | [] => exact wp_stk
  | [_] => exact wp_stk
  | [v, w] => exact wp_ret
  | _ :: _ :: _ :: _ => exact wp_stk
theorem wp_lenD {n : Nat} {kvs : List (Key × CV)} (h : S[n]? = some (.dct kvs)) : wp (vLen [.ref n]) S Q = Q (.int kvs.length) S := by
  refine wp_eq ?_
  unfold vLen
  dsimp only
  rw [h]
theorem wp_vPut {n : Nat} {x y : CV} {k : Key} {kvs : List (Key × CV)} (hk : keyOf x = some k) (h : S[n]? = some (.dct kvs)) : wp (vPut x y (.ref n)) S Q = (kvs.length < sizeLine ∧ Q .non (S.set n (.dct (putC kvs k y)))) := by
  have e : vPut x y (.ref n) S = M.grd (kvs.length < sizeLine) (fun S => .ok .non (S.set n (.dct (putC kvs k y)))) S := by
    unfold vPut
    dsimp only
    rw [hk, h]
  have e2 : wp (vPut x y (.ref n)) S Q = wp (M.grd (kvs.length < sizeLine) (fun S => Out.ok CV.non (S.set n (.dct (putC kvs k y))))) S Q := by
    unfold wp
    rw [e]
  rw [e2, wp_grd]
  congr 1
  exact wp_eq rfl
/-- a dict's comprehension, by an invariant -/
theorem wp_dcGo {ci : CI} {vs : List Nat} {g : CV → Env → M Env} {cd : Env → M Bool} {kx vx : Env → M CV} {Q : CV → CH → Prop} {m n : Nat} (I : Nat → CH → Prop)
    (hs : ∀ i S, i < m → I i S → ∃ c, ci.get S i = some c ∧ wp (g c (wipeE env vs)) S fun env1 S1 => wp (cd env1) S1 fun b S2 => if b = true then wp (kx env1) S2 fun x S3 => wp (vx env1) S3 fun y S4 => wp (vPut x y (.ref n)) S4 fun _ S5 => I (i + 1) S5 else I (i + 1) S2)
    (hd : ∀ S, I m S → ci.len S = some m ∧ Q (.ref n) S) : ∀ (k i : Nat) (S : CH), i + k = m → I i S → wp (dcGo ci vs env g cd kx vx n k i) S Q
  | 0, i, S, hk, h => by
    have e : i = m := by omega
    subst e
    obtain ⟨h1, h2⟩ := hd S h
    exact ⟨.ref n, S, by unfold dcGo; rw [if_pos h1], h2⟩
  | k + 1, i, S, hk, h => by
    obtain ⟨c, e, hw⟩ := hs i S (by omega) h
    have hh : wp ((g c (wipeE env vs)).nox.bind fun env1 => (cd env1).nox.bind fun b => match b with
      | true => (kx env1).nox.bind fun x => (vx env1).nox.bind fun y => (vPut x y (.ref n)).bind fun _ => dcGo ci vs env g cd kx vx n k (i + 1)
      | false => dcGo ci vs env g cd kx vx n k (i + 1)) S Q := by
      rw [wp_bind, wp_nox]
      refine wp_mono hw fun env1 S1 q => ?_
      rw [wp_bind, wp_nox]
      refine wp_mono q fun b S2 q2 => ?_
      cases b with
      | false =>
        rw [if_neg (by simp)] at q2
        exact wp_dcGo I hs hd k (i + 1) S2 (by omega) q2
      | true =>
        rw [if_pos rfl] at q2
        rw [wp_bind, wp_nox]
        refine wp_mono q2 fun x S3 q3 => ?_
        rw [wp_bind, wp_nox]
        refine wp_mono q3 fun y S4 q4 => ?_
        rw [wp_bind]
        refine wp_mono q4 fun _ S5 q5 => ?_
        exact wp_dcGo I hs hd k (i + 1) S5 (by omega) q5
    obtain ⟨r, S', e1, q⟩ := hh
    exact ⟨r, S', by unfold dcGo; rw [e]; exact e1, q⟩
theorem wp_eDc {it : Env → M CI} {vs : List Nat} {g : CV → Env → M Env} {cd : Env → M Bool} {kx vx : Env → M CV} : wp (eDc it vs g cd kx vx env) S Q = wp (it env) S fun ci S1 => optW (ci.len S1) fun k => wp (dcGo ci vs env g cd kx vx S1.length k 0) (S1 ++ [.dct []]) Q := by
  unfold eDc
  rw [wp_bind]
  congr 1
  funext ci S1
  cases e : ci.len S1 with
  | none => exact wp_not (by intro a b; rw [e]; nofun)
  | some k =>
    rw [optW_some]
    unfold wp
    dsimp only
    rw [e]
end
end G
end
section
set_option Elab.async false
set_option linter.all false
set_option maxRecDepth 100000
namespace Lk73
open PySem L2 G
def b__law_bag : G.Env → M Fl :=
  sRet (eLst (aCons (eLc (iSeq (eSl (eV 0) (oNone) (oSome (eC (.int 63))))) [1] (gN 1) (cYes) (eCl vInt (aCons (eV 1) (aNil)))) (aCons (eC (.int 0)) (aCons (eC (.int 0)) (aCons (eC (.int 0)) (aNil))))))
def m__law_bag : List CV → M CV := mFun 1 2 b__law_bag
def b__law_mixed : G.Env → M Fl :=
  sSeq (sAsg (eB vMod (eB vMul (eB vAdd (eB vAdd (eB vMod (eCl vInt (aCons (eV 0) (aNil))) (eC (.int 2147483647))) (eB vMul (eC (.int 7919)) (eV 1))) (eC (.int 1))) (eC (.int 48271))) (eC (.int 2147483647))) (gN 2))
  (sSeq (sAsg (eB vMod (eB vMul (eV 2) (eB vAdd (eB vDiv (eV 2) (eC (.int 1009))) (eC (.int 69621)))) (eC (.int 2147483647))) (gN 2))
  (sRet (eB vDiv (eB vMod (eB vMul (eV 2) (eB vAdd (eB vDiv (eV 2) (eC (.int 2003))) (eC (.int 40692)))) (eC (.int 2147483399))) (eC (.int 16)))))
def m__law_mixed : List CV → M CV := mFun 2 3 b__law_mixed
def b__law_draw : G.Env → M Fl :=
  sSeq (sAsg (eB vAdd (eB vIx (eV 0) (eC (.int 3))) (eC (.int 1))) (gSet (eV 0) (eC (.int 3))))
  (sSeq (sIf (cV (eB vGt (eB vIx (eV 0) (eC (.int 2))) (eC (.int 0)))) (sSeq (sAsg (eB vMod (eCl vInt (aCons (eB vIx (eV 0) (eC (.int 2))) (aNil))) (eV 1)) (gN 2))
  (sSeq (sAsg (eB vDiv (eB vIx (eV 0) (eC (.int 2))) (eV 1)) (gSet (eV 0) (eC (.int 2))))
  (sRet (eV 2)))) (sNil))
  (sSeq (sAsg (eB vIx (eV 0) (eC (.int 0))) (gN 3))
  (sSeq (sIf (cV (eB (vEq false) (eCl vLen (aCons (eV 3) (aNil))) (eC (.int 0)))) (sRet (eB vMod (eCl m__law_mixed (aCons (eC (.int 0)) (aCons (eB vIx (eV 0) (eC (.int 3))) (aNil)))) (eV 1))) (sNil))
  (sSeq (sAsg (eB vIx (eV 0) (eC (.int 1))) (gN 4))
  (sSeq (sAsg (eB vAdd (eV 4) (eC (.int 1))) (gSet (eV 0) (eC (.int 1))))
  (sSeq (sAsg (eB vIx (eV 3) (eB vMod (eCl vInt (aCons (eV 4) (aNil))) (eCl vLen (aCons (eV 3) (aNil))))) (gN 5))
  (sSeq (sIf (cAnd (cV (eB vLt (eV 4) (eCl vLen (aCons (eV 3) (aNil))))) (cV (eB vGe (eCl vAbs (aCons (eV 5) (aNil))) (eB vPow (eC (.int 10)) (eC (.int 18)))))) (sSeq (sAsg (eB vDiv (eCl vAbs (aCons (eV 5) (aNil))) (eV 1)) (gSet (eV 0) (eC (.int 2))))
  (sRet (eB vMod (eCl vInt (aCons (eCl vAbs (aCons (eV 5) (aNil))) (aNil))) (eV 1)))) (sNil))
  (sRet (eB vMod (eCl m__law_mixed (aCons (eV 5) (aCons (eB vIx (eV 0) (eC (.int 3))) (aNil)))) (eV 1))))))))))
def m__law_draw : List CV → M CV := mFun 2 6 b__law_draw
def b__law_versions : G.Env → M Fl :=
  sSeq (sAsg (eLst (aNil)) (gN 1))
  (sSeq (sAsg (eC (.int 0)) (gN 2))
  (sSeq (sFor (iCl vR1 (aCons (eCl m__law_draw (aCons (eV 0) (aCons (eB vIx (eLst (aCons (eC (.int 5)) (aCons (eC (.int 13)) (aNil)))) (eCl m__law_draw (aCons (eV 0) (aCons (eC (.int 2)) (aNil))))) (aNil)))) (aNil))) (gN 3) (sSeq (sAsg (eB vAdd (eB vAdd (eV 2) (eC (.int 1))) (eCl m__law_draw (aCons (eV 0) (aCons (eB vIx (eLst (aCons (eC (.int 1)) (aCons (eC (.int 3)) (aCons (eB vPow (eC (.int 10)) (eC (.int 16))) (aNil))))) (eCl m__law_draw (aCons (eV 0) (aCons (eC (.int 3)) (aNil))))) (aNil))))) (gN 2))
  (sSeq (sAsg (eC .non) (gN 4))
  (sSeq (sIf (cV (eB vGt (eCl m__law_draw (aCons (eV 0) (aCons (eC (.int 3)) (aNil)))) (eC (.int 0)))) (sAsg (eB vSub (eCl m__law_draw (aCons (eV 0) (aCons (eC (.int 5)) (aNil)))) (eC (.int 2))) (gN 4)) (sNil))
  (sAsg (eB vAdd (eLst (aCons (eTup (aCons (eV 2) (aCons (eV 4) (aNil)))) (aNil))) (eV 1)) (gN 1))))))
  (sRet (eV 1))))
def m__law_versions : List CV → M CV := mFun 1 5 b__law_versions
def b__law_open : G.Env → M Fl :=
  sSeq (sAsg (eLst (aNil)) (gN 3))
  (sSeq (sFor (iCl vR1 (aCons (eCl m__law_draw (aCons (eV 0) (aCons (eC (.int 7)) (aNil)))) (aNil))) (gN 4) (sSeq (sAsg (eCl m__law_draw (aCons (eV 0) (aCons (eB vAdd (eV 2) (eC (.int 1))) (aNil)))) (gN 5))
  (sSeq (sIf (cAnd (cV (eB vGt (eCl vLen (aCons (eV 1) (aNil))) (eC (.int 0)))) (cV (eB vGt (eCl m__law_draw (aCons (eV 0) (aCons (eC (.int 4)) (aNil)))) (eC (.int 0))))) (sAsg (eCl vMin2 (aCons (eV 2) (aCons (eB vSub (eB vAdd (eB vIx (eB vIx (eV 1) (eCl m__law_draw (aCons (eV 0) (aCons (eCl vLen (aCons (eV 1) (aNil))) (aNil))))) (eC (.int 0))) (eCl m__law_draw (aCons (eV 0) (aCons (eC (.int 3)) (aNil))))) (eC (.int 1))) (aNil)))) (gN 5)) (sNil))
  (sIf (cV (eB (vIn true) (eV 5) (eV 3))) (sExpr (eApp (eV 3) (eV 5))) (sNil)))))
  (sRet (eCl vTuple (aCons (eCl vSortA (aCons (eV 3) (aNil))) (aNil)))))
def m__law_open : List CV → M CV := mFun 3 6 b__law_open
def b__law_needed : G.Env → M Fl :=
  sSeq (sAsg (eLst (aNil)) (gN 2))
  (sSeq (sFor (iCl vR1 (aCons (eCl vLen (aCons (eV 0) (aNil))) (aNil))) (gN 3) (sSeq (sAsg (eB vSub (eB vSub (eCl vLen (aCons (eV 0) (aNil))) (eC (.int 1))) (eV 3)) (gN 4))
  (sSeq (sAsg (eB (vEq false) (eV 4) (eC (.int 0))) (gN 5))
  (sSeq (sFor (iSeq (eV 1)) (gN 6) (sIf (cAnd (cV (eB vLe (eB vIx (eB vIx (eV 0) (eV 4)) (eC (.int 0))) (eV 6))) (cOr (cV (eB (vEq false) (eV 4) (eC (.int 0)))) (cV (eB vLt (eV 6) (eB vIx (eB vIx (eV 0) (eB vSub (eV 4) (eC (.int 1)))) (eC (.int 0))))))) (sAsg (eC (.bl true)) (gN 5)) (sNil)))
  (sIf (cAnd (cV (eV 5)) (cOr (cV (eIsN true (eB vIx (eB vIx (eV 0) (eV 4)) (eC (.int 1))))) (cV (eB vGt (eCl vLen (aCons (eV 2) (aNil))) (eC (.int 0)))))) (sExpr (eApp (eV 2) (eB vIx (eB vIx (eV 0) (eV 4)) (eC (.int 0))))) (sNil))))))
  (sRet (eV 2)))
def m__law_needed : List CV → M CV := mFun 2 7 b__law_needed
def b_is_pair : G.Env → M Fl :=
  sRet (eAnd (eIsi "tuple" (eV 0)) (eB (vEq false) (eCl vLen (aCons (eV 0) (aNil))) (eC (.int 2))))
def m_is_pair : List CV → M CV := mFun 1 1 b_is_pair
def b_is_integer : G.Env → M Fl :=
  sRet (eAnd (eIsi "int" (eV 0)) (eNot (eIsi "bool" (eV 0))))
def m_is_integer : List CV → M CV := mFun 1 1 b_is_integer
def b_is_within : G.Env → M Fl :=
  sRet (eAnd (eCl m_is_integer (aCons (eV 0) (aNil))) (eChain vLe vLe (eV 1) (eV 0) (eV 2)))
def m_is_within : List CV → M CV := mFun 3 3 b_is_within
def b_is_commit : G.Env → M Fl :=
  sRet (eCl m_is_within (aCons (eV 0) (aCons (eC (.int 1)) (aCons (eC (.int (1000000000000000000))) (aNil)))))
def m_is_commit : List CV → M CV := mFun 1 1 b_is_commit
def b_is_worth : G.Env → M Fl :=
  sRet (eCl m_is_within (aCons (eV 0) (aCons (eNeg (eC (.int (1000000000000000000)))) (aCons (eC (.int (1000000000000000000))) (aNil)))))
def m_is_worth : List CV → M CV := mFun 1 1 b_is_worth
def b_is_mark : G.Env → M Fl :=
  sRet (eOr (eIsN false (eV 0)) (eCl m_is_worth (aCons (eV 0) (aNil))))
def m_is_mark : List CV → M CV := mFun 1 1 b_is_mark
def b_check_versions : G.Env → M Fl :=
  sSeq (sIf (cNot (cV (eIsi2 "list" "tuple" (eV 0)))) (sStk) (sNil))
  (sFor (iCl vEn (aCons (eV 0) (aNil))) (gT 2 (gsCons (gN 1) (gsCons (gN 2) (gsNil)))) (sSeq (sIf (cOr (cNot (cV (eCl m_is_pair (aCons (eV 2) (aNil))))) (cOr (cNot (cV (eCl m_is_commit (aCons (eB vIx (eV 2) (eC (.int 0))) (aNil))))) (cNot (cV (eCl m_is_mark (aCons (eB vIx (eV 2) (eC (.int 1))) (aNil))))))) (sStk) (sNil))
  (sIf (cAnd (cV (eB vGt (eV 1) (eC (.int 0)))) (cV (eB vGe (eB vIx (eV 2) (eC (.int 0))) (eB vIx (eB vIx (eV 0) (eB vSub (eV 1) (eC (.int 1)))) (eC (.int 0)))))) (sStk) (sNil))))
def m_check_versions : List CV → M CV := mFun 1 3 b_check_versions
def b_check_last : G.Env → M Fl :=
  sIf (cNot (cV (eCl m_is_within (aCons (eV 0) (aCons (eV 1) (aCons (eC (.int (1000000000000000000))) (aNil))))))) (sStk) (sNil)
def m_check_last : List CV → M CV := mFun 2 2 b_check_last
def b_is_lot : G.Env → M Fl :=
  sSeq (sIf (cNot (cV (eIsi "tuple" (eV 0)))) (sRet (eC (.bl false))) (sNil))
  (sSeq (sAsg (eNeg (eC (.int 1))) (gN 2))
  (sSeq (sFor (iSeq (eV 0)) (gN 3) (sSeq (sIf (cNot (cV (eCl m_is_within (aCons (eV 3) (aCons (eB vAdd (eV 2) (eC (.int 1))) (aCons (eB vSub (eV 1) (eC (.int 1))) (aNil))))))) (sRet (eC (.bl false))) (sNil))
  (sAsg (eV 3) (gN 2))))
  (sRet (eC (.bl true)))))
def m_is_lot : List CV → M CV := mFun 2 4 b_is_lot
def b_check_open : G.Env → M Fl :=
  sIf (cNot (cV (eCl m_is_lot (aCons (eV 0) (aCons (eB vAdd (eV 1) (eC (.int 1))) (aNil)))))) (sStk) (sNil)
def m_check_open : List CV → M CV := mFun 2 2 b_check_open
def b_check_asked : G.Env → M Fl :=
  sSeq (sExpr (eCl m_check_versions (aCons (eV 0) (aNil))))
  (sSeq (sExpr (eCl m_check_last (aCons (eV 2) (aCons (eIf (cV (eB vGt (eCl vLen (aCons (eV 0) (aNil))) (eC (.int 0)))) (eB vIx (eB vIx (eV 0) (eC (.int 0))) (eC (.int 0))) (eC (.int 0))) (aNil)))))
  (sExpr (eCl m_check_open (aCons (eV 1) (aCons (eV 2) (aNil))))))
def m_check_asked : List CV → M CV := mFun 3 3 b_check_asked
def b_asked_of : G.Env → M Fl :=
  sRet (eB vAdd (eCl vTuple (aCons (eLc (iSeq (eV 0)) [2] (gN 2) (cV (eB vLt (eV 2) (eV 1))) (eV 2)) (aNil))) (eTup (aCons (eV 1) (aNil))))
def m_asked_of : List CV → M CV := mFun 2 3 b_asked_of
def b_seen_of : G.Env → M Fl :=
  sSeq (sFor (iSeq (eV 0)) (gN 2) (sIf (cV (eB vLe (eB vIx (eV 2) (eC (.int 0))) (eV 1))) (sRet (eV 2)) (sNil)))
  (sRet (eC .non))
def m_seen_of : List CV → M CV := mFun 2 3 b_seen_of
def b_needed_of : G.Env → M Fl :=
  sSeq (sAsg (eLc (iSeq (eCl m_asked_of (aCons (eV 1) (aCons (eV 2) (aNil))))) [6] (gN 6) (cYes) (eCl m_seen_of (aCons (eV 0) (aCons (eV 6) (aNil))))) (gN 3))
  (sSeq (sAsg (eLst (aNil)) (gN 4))
  (sSeq (sFor (iSeq (eRev (eV 0))) (gN 5) (sIf (cAnd (cV (eB (vIn false) (eV 5) (eV 3))) (cOr (cV (eIsN true (eB vIx (eV 5) (eC (.int 1))))) (cV (eB vGt (eCl vLen (aCons (eV 4) (aNil))) (eC (.int 0)))))) (sExpr (eApp (eV 4) (eB vIx (eV 5) (eC (.int 0))))) (sNil)))
  (sRet (eCl vTuple (aCons (eV 4) (aNil))))))
def m_needed_of : List CV → M CV := mFun 3 7 b_needed_of
def b_needed : G.Env → M Fl :=
  sSeq (sExpr (eCl m_check_asked (aCons (eV 0) (aCons (eV 1) (aCons (eV 2) (aNil))))))
  (sRet (eCl m_needed_of (aCons (eV 0) (aCons (eV 1) (aCons (eV 2) (aNil))))))
def m_needed : List CV → M CV := mFun 3 3 b_needed
def b__law_is_lot : G.Env → M Fl :=
  sSeq (sIf (cNot (cV (eIsi "tuple" (eV 0)))) (sRet (eC (.bl false))) (sNil))
  (sSeq (sAsg (eC (.int 0)) (gN 2))
  (sSeq (sFor (iSeq (eV 0)) (gN 3) (sSeq (sIf (cOr (cNot (cV (eIsi "int" (eV 3)))) (cOr (cV (eIsi "bool" (eV 3))) (cOr (cV (eB vLe (eV 3) (eV 2))) (cV (eB (vIn true) (eV 3) (eV 1)))))) (sRet (eC (.bl false))) (sNil))
  (sAsg (eV 3) (gN 2))))
  (sRet (eC (.bl true)))))
def m__law_is_lot : List CV → M CV := mFun 2 4 b__law_is_lot
def b__law_seen : G.Env → M Fl :=
  sSeq (sFor (iSeq (eV 0)) (gN 2) (sIf (cV (eB vLe (eB vIx (eV 2) (eC (.int 0))) (eV 1))) (sRet (eV 2)) (sNil)))
  (sRet (eC .non))
def m__law_seen : List CV → M CV := mFun 2 3 b__law_seen
def b__law_is_enough : G.Env → M Fl :=
  sSeq (sIf (cNot (cV (eCl m__law_is_lot (aCons (eV 2) (aCons (eLc (iSeq (eV 0)) [7] (gN 7) (cYes) (eB vIx (eV 7) (eC (.int 0)))) (aNil)))))) (sRet (eC (.bl false))) (sNil))
  (sSeq (sAsg (eLc (iSeq (eV 0)) [7] (gN 7) (cV (eB (vIn false) (eB vIx (eV 7) (eC (.int 0))) (eV 2))) (eV 7)) (gN 3))
  (sSeq (sFor (iSeq (eV 1)) (gN 4) (sSeq (sAsg (eCl m__law_seen (aCons (eV 0) (aCons (eV 4) (aNil)))) (gN 5))
  (sSeq (sAsg (eCl m__law_seen (aCons (eV 3) (aCons (eV 4) (aNil)))) (gN 6))
  (sIf (cV (eIsN false (eV 6))) (sIf (cAnd (cV (eIsN true (eV 5))) (cV (eIsN true (eB vIx (eV 5) (eC (.int 1)))))) (sRet (eC (.bl false))) (sNil)) (sIf (cV (eB (vEq true) (eB vIx (eV 5) (eC (.int 0))) (eB vIx (eV 6) (eC (.int 0))))) (sRet (eC (.bl false))) (sNil))))))
  (sRet (eC (.bl true)))))
def m__law_is_enough : List CV → M CV := mFun 3 8 b__law_is_enough
def b_is_kept_right : G.Env → M Fl :=
  sSeq (sExpr (eCl m_check_asked (aCons (eV 0) (aCons (eV 1) (aCons (eV 2) (aNil))))))
  (sSeq (sIf (cOr (cNot (cV (eIsi "tuple" (eV 3)))) (cNot (cV (eCl vAll (aCons (eLc (iSeq (eV 3)) [10] (gN 10) (cYes) (eCl m_is_integer (aCons (eV 10) (aNil)))) (aNil)))))) (sRet (eC (.bl false))) (sNil))
  (sSeq (sAsg (eLc (iSeq (eV 0)) [9] (gN 9) (cYes) (eB vIx (eV 9) (eC (.int 0)))) (gN 4))
  (sSeq (sIf (cOr (cV (eB (vEq true) (eCl vList (aCons (eV 3) (aNil))) (eCl vSortA (aCons (eV 3) (aNil))))) (cV (eB vLt (eCl vLen (aCons (eDc (iSeq (eV 3)) [10] (gN 10) (cYes) (eV 10) (eC (.bl true))) (aNil))) (eCl vLen (aCons (eV 3) (aNil)))))) (sRet (eC (.bl false))) (sNil))
  (sSeq (sIf (cNot (cV (eCl vAll (aCons (eLc (iSeq (eV 3)) [10] (gN 10) (cYes) (eB (vIn false) (eV 10) (eV 4))) (aNil))))) (sRet (eC (.bl false))) (sNil))
  (sSeq (sAsg (eLc (iSeq (eV 0)) [9] (gN 9) (cV (eB (vIn false) (eB vIx (eV 9) (eC (.int 0))) (eV 3))) (eV 9)) (gN 5))
  (sSeq (sFor (iSeq (eCl m_asked_of (aCons (eV 1) (aCons (eV 2) (aNil))))) (gN 6) (sSeq (sPar 7 8 (aCons (eCl m_seen_of (aCons (eV 0) (aCons (eV 6) (aNil)))) (aCons (eCl m_seen_of (aCons (eV 5) (aCons (eV 6) (aNil)))) (aNil))))
  (sIf (cAnd (cV (eB (vEq true) (eV 8) (eV 7))) (cNot (cAnd (cV (eIsN false (eV 8))) (cV (eIsN false (eB vIx (eV 7) (eC (.int 1)))))))) (sRet (eC (.bl false))) (sNil))))
  (sRet (eC (.bl true)))))))))
def m_is_kept_right : List CV → M CV := mFun 4 11 b_is_kept_right
def b__law_some : G.Env → M Fl :=
  sSeq (sAsg (eLst (aNil)) (gN 3))
  (sSeq (sFor (iSeq (eV 1)) (gN 4) (sIf (cV (eB vLt (eCl m__law_draw (aCons (eV 0) (aCons (eC (.int 4)) (aNil)))) (eV 2))) (sExpr (eApp (eV 3) (eV 4))) (sNil)))
  (sRet (eV 3)))
def m__law_some : List CV → M CV := mFun 3 5 b__law_some
def b__law_lot : G.Env → M Fl :=
  sSeq (sAsg (eCl m__law_draw (aCons (eV 0) (aCons (eC (.int 6)) (aNil)))) (gN 3))
  (sSeq (sAsg (eCl vSortA (aCons (eLc (iSeq (eV 1)) [7] (gN 7) (cYes) (eB vIx (eV 7) (eC (.int 0)))) (aNil))) (gN 4))
  (sSeq (sIf (cOr (cV (eB (vEq false) (eV 3) (eC (.int 0)))) (cV (eB (vEq false) (eCl vLen (aCons (eV 4) (aNil))) (eC (.int 0))))) (sRet (eCl vTuple (aCons (eV 2) (aNil)))) (sNil))
  (sSeq (sIf (cV (eB (vEq false) (eV 3) (eC (.int 1)))) (sRet (eCl vTuple (aCons (eCl m__law_some (aCons (eV 0) (aCons (eV 4) (aCons (eB vAdd (eC (.int 1)) (eCl m__law_draw (aCons (eV 0) (aCons (eC (.int 4)) (aNil))))) (aNil))))) (aNil)))) (sNil))
  (sSeq (sIf (cV (eB (vEq false) (eV 3) (eC (.int 2)))) (sSeq (sAsg (eB vIx (eV 4) (eCl m__law_draw (aCons (eV 0) (aCons (eCl vLen (aCons (eV 4) (aNil))) (aNil))))) (gN 5))
  (sRet (eCl vTuple (aCons (eLc (iSeq (eV 4)) [8] (gN 8) (cOr (cV (eB (vIn false) (eV 8) (eV 2))) (cV (eB (vEq false) (eV 8) (eV 5)))) (eV 8)) (aNil))))) (sNil))
  (sSeq (sIf (cV (eB (vEq false) (eV 3) (eC (.int 3)))) (sSeq (sAsg (eB vIx (eV 4) (eCl m__law_draw (aCons (eV 0) (aCons (eCl vLen (aCons (eV 4) (aNil))) (aNil))))) (gN 5))
  (sRet (eCl vTuple (aCons (eLc (iSeq (eV 2)) [8] (gN 8) (cV (eB (vEq true) (eV 8) (eV 5))) (eV 8)) (aNil))))) (sNil))
  (sSeq (sIf (cV (eB (vEq false) (eV 3) (eC (.int 4)))) (sSeq (sAsg (eCl m__law_some (aCons (eV 0) (aCons (eLc (iSeq (eV 1)) [7] (gN 7) (cV (eIsN false (eB vIx (eV 7) (eC (.int 1))))) (eB vIx (eV 7) (eC (.int 0)))) (aCons (eC (.int 2)) (aNil))))) (gN 6))
  (sRet (eCl vTuple (aCons (eLc (iSeq (eV 4)) [8] (gN 8) (cOr (cV (eB (vIn false) (eV 8) (eV 2))) (cV (eB (vIn false) (eV 8) (eV 6)))) (eV 8)) (aNil))))) (sNil))
  (sRet (eCl vTuple (aCons (eV 4) (aNil))))))))))
def m__law_lot : List CV → M CV := mFun 3 9 b__law_lot
def b__law_no_lot : G.Env → M Fl :=
  sSeq (sAsg (eCl m__law_draw (aCons (eV 0) (aCons (eC (.int 9)) (aNil)))) (gN 2))
  (sSeq (sAsg (eCl m__law_draw (aCons (eV 0) (aCons (eB vAdd (eCl vLen (aCons (eV 1) (aNil))) (eC (.int 1))) (aNil)))) (gN 3))
  (sSeq (sIf (cV (eB (vEq false) (eV 2) (eC (.int 0)))) (sRet (eCl vList (aCons (eV 1) (aNil)))) (sNil))
  (sSeq (sIf (cV (eB (vEq false) (eV 2) (eC (.int 1)))) (sRet (eRev (eV 1))) (sNil))
  (sSeq (sIf (cV (eB (vEq false) (eV 2) (eC (.int 2)))) (sRet (eB vAdd (eSl (eV 1) (oNone) (oSome (eV 3))) (eSl (eV 1) (oSome (eCl vMax2 (aCons (eC (.int 0)) (aCons (eB vSub (eV 3) (eC (.int 1))) (aNil))))) (oNone)))) (sNil))
  (sSeq (sIf (cV (eB (vEq false) (eV 2) (eC (.int 3)))) (sSeq (sAsg (eB vIx (eLst (aCons (eC (.int 0)) (aCons (eNeg (eC (.int 1))) (aCons (eB vPow (eC (.int 10)) (eC (.int 18))) (aCons (eB vPow (eC (.int 10)) (eC (.int 30))) (aNil)))))) (eCl m__law_draw (aCons (eV 0) (aCons (eC (.int 4)) (aNil))))) (gN 4))
  (sRet (eCl vTuple (aCons (eCl vSortA (aCons (eB vAdd (eCl vList (aCons (eV 1) (aNil))) (eLst (aCons (eV 4) (aNil)))) (aNil))) (aNil))))) (sNil))
  (sSeq (sIf (cV (eB (vEq false) (eV 2) (eC (.int 4)))) (sRet (eB vAdd (eTup (aCons (eC (.bl true)) (aNil))) (eSl (eV 1) (oSome (eC (.int 1))) (oNone)))) (sNil))
  (sSeq (sIf (cV (eB (vEq false) (eV 2) (eC (.int 5)))) (sRet (eB vAdd (eB vAdd (eSl (eV 1) (oNone) (oSome (eV 3))) (eTup (aCons (eB vIx (eLst (aCons (eC (.str "1")) (aCons (eC .non) (aCons (eTup (aCons (eC (.int 1)) (aNil))) (aCons (eLst (aCons (eC (.int 1)) (aNil))) (aCons (eTup (aNil)) (aNil))))))) (eCl m__law_draw (aCons (eV 0) (aCons (eC (.int 5)) (aNil))))) (aNil)))) (eSl (eV 1) (oSome (eV 3)) (oNone)))) (sNil))
  (sSeq (sIf (cV (eB (vEq false) (eV 2) (eC (.int 6)))) (sRet (eB vAdd (eB vAdd (eSl (eV 1) (oNone) (oSome (eV 3))) (eTup (aCons (eCl m__law_draw (aCons (eV 0) (aCons (eC (.int 40)) (aNil)))) (aNil)))) (eSl (eV 1) (oSome (eB vAdd (eV 3) (eC (.int 1)))) (oNone)))) (sNil))
  (sSeq (sIf (cV (eB (vEq false) (eV 2) (eC (.int 7)))) (sRet (eTup (aCons (eV 1) (aNil)))) (sNil))
  (sRet (eB vIx (eLst (aCons (eC .non) (aCons (eC (.bl true)) (aCons (eC (.int 1)) (aCons (eC (.str "")) (aCons (eC (.str "(1,)")) (aCons (eDNew) (aCons (eDLit (((eC (.int 1)), (eC (.int 1))) :: ([]))) (aNil))))))))) (eCl m__law_draw (aCons (eV 0) (aCons (eC (.int 7)) (aNil)))))))))))))))
def m__law_no_lot : List CV → M CV := mFun 2 5 b__law_no_lot
def b_law : G.Env → M Fl :=
  sSeq (sAsg (eCl m__law_bag (aCons (eV 0) (aNil))) (gN 1))
  (sSeq (sAsg (eCl m__law_versions (aCons (eV 1) (aNil))) (gN 2))
  (sSeq (sAsg (eC (.int 0)) (gN 3))
  (sSeq (sIf (cV (eB vGt (eCl vLen (aCons (eV 2) (aNil))) (eC (.int 0)))) (sAsg (eB vIx (eB vIx (eV 2) (eC (.int 0))) (eC (.int 0))) (gN 3)) (sNil))
  (sSeq (sAsg (eB vAdd (eV 3) (eCl m__law_draw (aCons (eV 1) (aCons (eC (.int 3)) (aNil))))) (gN 3))
  (sSeq (sAsg (eCl m__law_open (aCons (eV 1) (aCons (eV 2) (aCons (eV 3) (aNil))))) (gN 4))
  (sSeq (sAsg (eCl m__law_needed (aCons (eV 2) (aCons (eV 4) (aNil)))) (gN 5))
  (sSeq (sAsg (eB vAdd (eCl vList (aCons (eV 4) (aNil))) (eLst (aCons (eV 3) (aCons (eB vAdd (eB vAdd (eV 3) (eC (.int 1))) (eCl m__law_draw (aCons (eV 1) (aCons (eC (.int 9)) (aNil))))) (aNil))))) (gN 6))
  (sSeq (sAsg (eCl m_needed (aCons (eCl vList (aCons (eV 2) (aNil))) (aCons (eV 4) (aCons (eV 3) (aNil))))) (gN 7))
  (sSeq (sIf (cOr (cNot (cV (eCl m__law_is_enough (aCons (eV 2) (aCons (eV 6) (aCons (eV 7) (aNil))))))) (cV (eB (vIsB true) (eCl m_is_kept_right (aCons (eCl vTuple (aCons (eV 2) (aNil))) (aCons (eV 4) (aCons (eV 3) (aCons (eV 7) (aNil)))))) (eC (.bl true))))) (sRet (eC (.bl false))) (sNil))
  (sSeq (sFor (iCl vR1 (aCons (eC (.int 8)) (aNil))) (gN 8) (sSeq (sAsg (eCl m__law_lot (aCons (eV 1) (aCons (eV 2) (aCons (eV 5) (aNil))))) (gN 9))
  (sSeq (sIf (cV (eB (vEq false) (eCl m__law_draw (aCons (eV 1) (aCons (eC (.int 3)) (aNil)))) (eC (.int 0)))) (sAsg (eCl m__law_no_lot (aCons (eV 1) (aCons (eV 9) (aNil)))) (gN 9)) (sNil))
  (sSeq (sAsg (eCl vList (aCons (eV 2) (aNil))) (gN 10))
  (sSeq (sAsg (eCl m_is_kept_right (aCons (eV 10) (aCons (eV 4) (aCons (eV 3) (aCons (eV 9) (aNil)))))) (gN 11))
  (sSeq (sIf (cOr (cV (eB (vEq true) (eV 10) (eV 2))) (cOr (cNot (cV (eIsi "bool" (eV 11)))) (cV (eB (vEq true) (eV 11) (eCl m__law_is_enough (aCons (eV 2) (aCons (eV 6) (aCons (eV 9) (aNil))))))))) (sRet (eC (.bl false))) (sNil))
  (sIf (cV (eV 11)) (sFor (iSeq (eV 7)) (gN 12) (sIf (cV (eB (vIn true) (eV 12) (eV 9))) (sRet (eC (.bl false))) (sNil))) (sNil))))))))
  (sRet (eC (.bl true)))))))))))))
def m_law : List CV → M CV := mFun 1 13 b_law
end Lk73
end
section
set_option linter.all false
namespace Lk73
abbrev Vn := Int × Option Int
/-- newest first -/
def Desc (vs : List Vn) : Prop := vs.Pairwise fun a b => b.1 < a.1
def seenP (vs : List Vn) (s : Int) : Option Vn := vs.find? fun v => decide (v.1 ≤ s)
def isS (vs : List Vn) (op : List Int) (v : Vn) : Bool := decide (vs.head? = some v) || op.any fun s => decide (seenP vs s = some v)
def stepN (c : Vn → Bool) (acc : List Int) (v : Vn) : List Int := if (c v && (v.2.isSome || !acc.isEmpty)) = true then acc ++ [v.1] else acc
def NP (vs : List Vn) (op : List Int) : List Int := vs.reverse.foldl (stepN (isS vs op)) []
theorem seen_last {vs : List Vn} {last : Int} (hd : Desc vs) (hl : ∀ v ∈ vs, v.1 ≤ last) : seenP vs last = vs.head? := by
  cases vs with
  | nil => rfl
  | cons v r =>
    unfold seenP
    rw [List.find?_cons_of_pos (by simpa using hl v (by simp))]
    rfl
def askedP (op : List Int) (last : Int) : List Int := op.filter (fun s => decide (s < last)) ++ [last]
theorem asked_seen {vs : List Vn} {op : List Int} {last : Int} (hd : Desc vs) (hl : ∀ v ∈ vs, v.1 ≤ last) (ho : ∀ s ∈ op, s ≤ last) (v : Vn) :
    ((askedP op last).map (seenP vs)).any (fun z => decide (z = some v)) = isS vs op v := by
  rw [Bool.eq_iff_iff]
  unfold isS askedP
  simp only [List.any_map, List.any_append, List.any_cons, List.any_nil, Bool.or_false, Bool.or_eq_true, Function.comp, List.any_eq_true, decide_eq_true_eq, List.mem_filter]
  rw [seen_last hd hl]
  constructor
  · rintro (⟨s, ⟨h1, h2⟩, h3⟩ | h)
    · exact .inr ⟨s, h1, h3⟩
    · exact .inl h
  · rintro (h | ⟨s, h1, h2⟩)
    · exact .inr h
    · by_cases q : s < last
      · exact .inl ⟨s, ⟨h1, q⟩, h2⟩
      · have e : s = last := by
          have := ho s h1
          omega
        subst e
        rw [seen_last hd hl] at h2
        exact .inr h2
theorem desc_get {vs : List Vn} (hd : Desc vs) {i j : Nat} (hi : i < vs.length) (hj : j < vs.length) (h : i < j) : vs[j].1 < vs[i].1 := List.pairwise_iff_getElem.mp hd i j hi hj h
/-- which one is seen, by places -/
theorem seen_at {vs : List Vn} (hd : Desc vs) {s : Int} {k : Nat} (hk : k < vs.length) : seenP vs s = some vs[k] ↔ vs[k].1 ≤ s ∧ (k = 0 ∨ ∀ h : k - 1 < vs.length, s < vs[k - 1].1) := by
  unfold seenP
  rw [List.find?_eq_some_iff_getElem]
  simp only [decide_eq_true_eq]
  constructor
  · rintro ⟨h1, i, hi, e, h2⟩
    have ei : i = k := by
      rcases Nat.lt_trichotomy i k with q | q | q
      · have := desc_get hd hi hk q
        rw [e] at this
        omega
      · exact q
      · have := desc_get hd hk hi q
        rw [e] at this
        omega
    subst ei
    refine ⟨h1, ?_⟩
    by_cases z : i = 0
    · exact .inl z
    · refine .inr fun h => ?_
      have := h2 (i - 1) (by omega)
      simp at this
      exact this
  · rintro ⟨h1, h2⟩
    refine ⟨h1, k, hk, rfl, fun j hj => ?_⟩
    simp only [Bool.not_eq_true', decide_eq_false_iff_not]
    rcases h2 with h2 | h2
    · omega
    · have h3 := h2 (by omega)
      rcases Nat.lt_or_ge j (k - 1) with q | q
      · have := desc_get hd (by omega) (by omega) q
        omega
      · have e : j = k - 1 := by omega
        subst e
        omega
theorem isS_at {vs : List Vn} (hd : Desc vs) (op : List Int) {k : Nat} (hk : k < vs.length) :
    isS vs op vs[k] = (decide (k = 0) || op.any fun s => decide (vs[k].1 ≤ s ∧ (k = 0 ∨ ∀ h : k - 1 < vs.length, s < vs[k - 1].1))) := by
  unfold isS
  have e1 : (vs.head? = some vs[k]) ↔ k = 0 := by
    rw [List.head?_eq_getElem?]
    constructor
    · intro h
      have h0 : 0 < vs.length := by omega
      rw [List.getElem?_eq_getElem h0] at h
      have h' := Option.some.inj h
      rcases Nat.eq_zero_or_pos k with q | q
      · exact q
      · have := desc_get hd h0 hk q
        rw [h'] at this
        omega
    · rintro rfl
      rw [List.getElem?_eq_getElem hk]
  rw [decide_eq_decide.mpr e1]
  congr 1
  congr 1
  funext s
  exact decide_eq_decide.mpr (seen_at hd hk)
theorem fold_mem {c : Vn → Bool} : ∀ {L : List Vn} {acc : List Int} {x : Int}, x ∈ L.foldl (stepN c) acc → x ∈ acc ∨ ∃ w ∈ L, w.1 = x
  | [], acc, x, h => .inl h
  | v :: L, acc, x, h => by
    rcases fold_mem (L := L) h with q | ⟨w, hw, e⟩
    · unfold stepN at q
      split at q
      · rcases List.mem_append.mp q with q | q
        · exact .inl q
        · exact .inr ⟨v, by simp, (List.mem_singleton.mp q).symm⟩
      · exact .inl q
    · exact .inr ⟨w, by simp [hw], e⟩
theorem fold_sub {c : Vn → Bool} : ∀ {L : List Vn} {acc : List Int} {x : Int}, x ∈ acc → x ∈ L.foldl (stepN c) acc
  | [], acc, x, h => h
  | v :: L, acc, x, h => by
    refine fold_sub (L := L) ?_
    unfold stepN
    split
    · exact List.mem_append_left _ h
    · exact h
theorem fold_kept {c c' : Vn → Bool} (D : List Int) : ∀ (L : List Vn) (acc : List Int), L.foldl (stepN c) acc = D → (L.map (·.1)).Nodup → (∀ x ∈ acc, ∀ w ∈ L, w.1 ≠ x) →
    (∀ v ∈ L, v.1 ∈ D → c v = true → c' v = true) → (L.filter fun v => decide (v.1 ∈ D)).foldl (stepN c') acc = D
  | [], acc, h, _, _, _ => h
  | v :: L, acc, h, hn, ha, hc => by
    have hn' : (L.map (·.1)).Nodup := (List.nodup_cons.mp hn).2
    have hv : ∀ w ∈ L, w.1 ≠ v.1 := fun w hw e => (List.nodup_cons.mp hn).1 (List.mem_map.mpr ⟨w, hw, e⟩)
    have h' : L.foldl (stepN c) (stepN c acc v) = D := h
    by_cases q : (c v && (v.2.isSome || !acc.isEmpty)) = true
    · have e : stepN c acc v = acc ++ [v.1] := by
        unfold stepN
        rw [if_pos q]
      rw [e] at h'
      have hm : v.1 ∈ D := by
        rw [← h']
        exact fold_sub (by simp)
      rw [List.filter_cons_of_pos (by simpa using hm), List.foldl_cons]
      obtain ⟨q1, q2⟩ := Bool.and_eq_true_iff.mp q
      have e' : stepN c' acc v = acc ++ [v.1] := by
        unfold stepN
        rw [if_pos (by rw [hc v (by simp) hm q1, q2]; rfl)]
      rw [e']
      refine fold_kept D L _ h' hn' (fun x hx w hw => ?_) fun w hw => hc w (by simp [hw])
      rcases List.mem_append.mp hx with hx | hx
      · exact ha x hx w (by simp [hw])
      · rw [List.mem_singleton.mp hx]
        exact hv w hw
    · have e : stepN c acc v = acc := by
        unfold stepN
        rw [if_neg q]
      rw [e] at h'
      have hm : v.1 ∉ D := by
        intro z
        rw [← h'] at z
        rcases fold_mem z with z | ⟨w, hw, z⟩
        · exact ha _ z v (by simp) rfl
        · exact hv w hw z
      rw [List.filter_cons_of_neg (by simpa using hm)]
      exact fold_kept D L acc h' hn' (fun x hx w hw => ha x hx w (by simp [hw])) fun w hw => hc w (by simp [hw])
theorem desc_nodup {vs : List Vn} (hd : Desc vs) : (vs.map (·.1)).Nodup := by
  unfold List.Nodup
  rw [List.pairwise_map]
  exact hd.imp fun {a b} h => by omega
theorem find_filter {vs : List Vn} {p q : Vn → Bool} {v : Vn} (h : vs.find? q = some v) (hp : p v = true) : (vs.filter p).find? q = some v := by
  rw [List.find?_filter]
  induction vs with
  | nil => cases h
  | cons w r ih =>
    rw [List.find?_cons] at h ⊢
    cases e : q w with
    | true =>
      rw [e] at h
      cases h
      rw [hp]
      simp
    | false =>
      rw [e] at h
      rw [show decide (p w = true ∧ false = true) = false by simp]
      exact ih h
theorem NP_kept {vs : List Vn} (hd : Desc vs) (op : List Int) : NP (vs.filter fun v => decide (v.1 ∈ NP vs op)) op = NP vs op := by
  have key := fold_kept (c := isS vs op) (c' := isS (vs.filter fun v => decide (v.1 ∈ NP vs op)) op) (NP vs op) vs.reverse [] rfl (by
    rw [List.map_reverse]
    exact List.pairwise_reverse.mpr ((desc_nodup hd).imp fun {a b} h => Ne.symm h)) (fun x hx => by cases hx) (fun v hv hm h => ?_)
  · unfold NP at key ⊢
    rw [List.filter_reverse] at key
    exact key
  · unfold isS at h ⊢
    rcases Bool.or_eq_true_iff.mp h with h | h
    · refine Bool.or_eq_true_iff.mpr (.inl (decide_eq_true ?_))
      have h' := of_decide_eq_true h
      cases vs with
      | nil => cases h'
      | cons w r =>
        cases h'
        rw [List.filter_cons_of_pos (by simpa using hm)]
        rfl
    · refine Bool.or_eq_true_iff.mpr (.inr ?_)
      rw [List.any_eq_true] at h ⊢
      obtain ⟨s, hs, e⟩ := h
      refine ⟨s, hs, decide_eq_true ?_⟩
      exact find_filter (of_decide_eq_true e) (by simpa using hm)
end Lk73
end
section
set_option Elab.async false
set_option linter.all false
set_option maxRecDepth 100000
set_option maxHeartbeats 4000000
namespace Lk73
open PySem L2 G
local macro_rules | `(tactic| walk_at "wp") => `(tactic| simp only [wp_sSeq, wp_sAsg, wp_sNil, wp_sExpr, wp_sRet, wp_sRetN, fnQ_ret, fnQ_nx, wp_sIf, wp_gN, wp_gSet, wp_eB, wp_eC, wp_eV, wp_add, wp_sub, wp_mul, wp_div, wp_mod, wp_pow, wp_cmp, wp_cV, vBk_bl, wp_cNot, wp_cAnd, wp_cOr, wp_eAnd, wp_eOr, wp_eNot, wp_eIf, wp_aNil, wp_aCons, wp_eTup, wp_eLst, wp_eCl, wp_int, wp_abs, wp_min, wp_max, wp_eNeg, wp_eIsN, wp_ret, wp_okf, wp_ixR, wp_ixT, optW_some, wo_vSet, wo_isLst, wo_vApp, wo_itR, wo_enR, mlst_lst, lstOf_lst, lstOf_rol,
  List.getElem?_cons_succ, List.getElem?_cons_zero, List.set_cons_succ, List.set_cons_zero, decide_eq_true_eq, List.length_cons, List.length_nil])

abbrev bagO (c : Nat) (at' big cnt : Int) : CO := .lst [.ref c, .int at', .int big, .int cnt]
theorem emod_b (x : Int) {m : Int} (h : 0 < m) : 0 ≤ x % m ∧ x % m < m := ⟨Int.emod_nonneg _ (by omega), Int.emod_lt_of_pos _ h⟩
theorem mixed_ok {S : CH} {a b : Int} {Q : CV → CH → Prop} (hb : 0 ≤ b ∧ b < 1099511627776) (k : ∀ r, 0 ≤ r → Q (.int r) S) : wp (m__law_mixed [.int a, .int b]) S Q := by
  refine wp_fn rfl ?_
  show wp (b__law_mixed [some (.int a), some (.int b), none]) S _
  unfold b__law_mixed
  walk_at "wp"
  have h1 := emod_b a (m := 2147483647) (by decide)
  generalize a % 2147483647 = x at h1 ⊢
  refine ⟨by decide, mul60 (by omega) (by omega) (by omega) (by omega), mul60 (by omega) (by omega) (by omega) (by omega), by decide, div64 (by decide) (by decide), ?_⟩
  have h2 := emod_b ((x + 7919 * b + 1) * 48271) (m := 2147483647) (by decide)
  generalize (x + 7919 * b + 1) * 48271 % 2147483647 = y at h2 ⊢
  refine ⟨mul60 (by omega) (by omega) (by omega) (by omega), by decide, div64 (by decide) (by decide), ?_⟩
  have h3 := emod_b (y * (y / 1009 + 69621)) (m := 2147483647) (by decide)
  generalize y * (y / 1009 + 69621) % 2147483647 = z at h3 ⊢
  refine ⟨mul60 (by omega) (by omega) (by omega) (by omega), by decide, div64 (by decide) (by decide), k _ ?_⟩
  have h4 := emod_b (z * (z / 2003 + 40692)) (m := 2147483399) (by decide)
  omega
structure Bag (S : CH) (h c : Nat) (ns : List Int) (at' big cnt : Int) : Prop where
  o : S[h]? = some (bagO c at' big cnt)
  cs : lstOf S[c]? = some (ns.map CV.int)
  ne : c ≠ h
  p1 : 0 ≤ at'
  p2 : 0 ≤ big
  p3 : 0 ≤ cnt
theorem at0 {a b c d : CV} : atI [a, b, c, d] 0 = some a := rfl
theorem at1 {a b c d : CV} : atI [a, b, c, d] 1 = some b := rfl
theorem at2 {a b c d : CV} : atI [a, b, c, d] 2 = some c := rfl
theorem at3 {a b c d : CV} : atI [a, b, c, d] 3 = some d := rfl
theorem ix1 : ixN 4 1 = some 1 := rfl
theorem ix2 : ixN 4 2 = some 2 := rfl
theorem ix3 : ixN 4 3 = some 3 := rfl
theorem set_at {S : CH} {h : Nat} {o0 o : CO} (e : S[h]? = some o0) : (S.set h o)[h]? = some o := List.getElem?_set_self (List.getElem?_eq_some_iff.mp e).1
theorem draw_ok {S : CH} {h c : Nat} {ns : List Int} {at' big cnt many : Int} {Q : CV → CH → Prop} (B : Bag S h c ns at' big cnt) (hc : cnt < 1000000) (hm : 0 < many) (hz : many < 18446744073709551616)
    (k : ∀ d at2 big2, 0 ≤ d → d < many → 0 ≤ at2 → 0 ≤ big2 → Q (.int d) (S.set h (bagO c at2 big2 (cnt + 1)))) : wp (m__law_draw [.ref h, .int many]) S Q := by
  refine wp_fn rfl ?_
  show wp (b__law_draw [some (.ref h), some (.int many), none, none, none, none]) S _
  unfold b__law_draw
  have s1 : ∀ o, (S.set h o)[h]? = some o := fun o => set_at B.o
  have s2 : ∀ o, (S.set h o)[c]? = S[c]? := fun o => List.getElem?_set_ne B.ne.symm
  have e1 := B.o
  unfold bagO at e1 k
  walk_at "wp"
  simp only [e1, lstOf_lst, mlst_lst, optW_some, at0, at1, at2, at3, ix1, ix2, ix3, s1, s2, List.set_set, List.length_cons, List.length_nil, Nat.zero_add, Nat.reduceAdd, wp_add, wp_int, wp_cmp, vBk_bl, wp_mod, wp_div, wo_vSet, decide_eq_true_eq, List.set_cons_succ, List.set_cons_zero, List.getElem?_cons_succ, List.getElem?_cons_zero, wp_ixR, wp_eqI, B.cs, Bool.false_bne, Int.emod_nonneg, wp_abs, wp_pow]
  have l1 : ∀ (o : CO) (Q : CV → CH → Prop), wp (vLen [.ref c]) (S.set h o) Q = Q (.int ns.length) (S.set h o) := fun o Q => by
    rw [wp_lenR (xs := ns.map CV.int) (by rw [s2]; exact B.cs), List.length_map]
  simp only [l1, wp_eqI, vBk_bl, Bool.false_bne, decide_eq_true_eq, s1, s2, B.cs, lstOf_lst, mlst_lst, optW_some, at0, at1, at2, at3, ix1, ix2, ix3, wp_add, wp_int, wp_mod, wp_ixR, wp_cmp, List.set_set, List.set_cons_succ, List.set_cons_zero, List.length_cons, List.length_nil, Nat.zero_add, Nat.reduceAdd]
  have p1 := B.p1
  have p2 := B.p2
  have p3 := B.p3
  have fin : ∀ (r : Int) (at2 big2 : Int), 0 ≤ at2 → 0 ≤ big2 → Q (.int (r % many)) (S.set h (.lst [.ref c, .int at2, .int big2, .int (cnt + 1)])) := fun r at2 big2 q1 q2 => k _ _ _ (emod_b r hm).1 (emod_b r hm).2 q1 q2
  by_cases c1 : 0 < big
  · rw [if_pos c1]
    exact ⟨hm, div64 hm hz, fin _ _ _ p1 (Int.ediv_nonneg p2 (by omega))⟩
  rw [if_neg c1]
  by_cases c2 : (ns.length : Int) = 0
  · rw [if_pos c2]
    refine mixed_ok (by omega) fun r hr => ?_
    rw [wp_mod]
    exact ⟨hm, fin _ _ _ p1 p2⟩
  rw [if_neg c2]
  have hl : (0 : Int) < ns.length := by omega
  refine ⟨hl, ?_⟩
  have hb := emod_b at' hl
  obtain ⟨j, hj⟩ : ∃ j : Nat, at' % (ns.length : Int) = j := ⟨(at' % (ns.length : Int)).toNat, by omega⟩
  rw [hj] at hb ⊢
  have hj2 : j < ns.length := by omega
  refine optW_of (atI_nat (v := .int ns[j]) (by rw [List.getElem?_map, List.getElem?_eq_getElem hj2]; rfl)) ?_
  generalize ns[j] = v
  simp only [wp_abs, wp_cmp, vBk_bl, wp_div, wp_int, wp_mod, s1, lstOf_lst, mlst_lst, optW_some, at3, ix2, List.set_set, List.set_cons_succ, List.set_cons_zero, List.length_cons, List.length_nil, Nat.zero_add, Nat.reduceAdd, decide_eq_true_eq]
  have last : wp (m__law_mixed [.int v, .int (cnt + 1)]) (S.set h (.lst [.ref c, .int (at' + 1), .int big, .int (cnt + 1)])) fun x S1 => wp (vMod x (.int many)) S1 fun v S1 => Q v S1 := by
    refine mixed_ok (by omega) fun r hr => ?_
    rw [wp_mod]
    exact ⟨hm, fin _ _ _ (by omega) p2⟩
  by_cases c3 : at' < (ns.length : Int)
  · rw [if_pos c3]
    refine ⟨by decide, ?_⟩
    by_cases c4 : (10 : Int) ^ Int.toNat 18 ≤ (if v < 0 then -v else v)
    · rw [if_pos c4]
      refine ⟨div64 hm hz, hm, fin _ _ _ (by omega) (Int.ediv_nonneg ?_ (by omega))⟩
      split <;> omega
    · rw [if_neg c4]
      exact last
  · rw [if_neg c3, if_neg (by decide)]
    exact last
end Lk73
end
section
set_option Elab.async false
set_option linter.all false
set_option maxRecDepth 100000
set_option maxHeartbeats 4000000
/-! sequences by value, the pure defs -/
namespace G
open PySem L2
/-- v is a tuple or a list of xs -/
def SeqV (S : CH) (v : CV) (xs : List CV) : Prop := v = .tup xs ∨ ∃ n, v = .ref n ∧ lstOf S[n]? = some xs
section
variable {S S' : CH} {v : CV} {xs : List CV} {Q : CV → CH → Prop}
theorem SeqV.tup : SeqV S (.tup xs) xs := .inl rfl
theorem SeqV.lst {n : Nat} (h : S[n]? = some (.lst xs)) : SeqV S (.ref n) xs := .inr ⟨n, rfl, by rw [h]; rfl⟩
theorem SeqV.keep (h : SeqV S v xs) (k : S <+: S') : SeqV S' v xs := by
  rcases h with h | ⟨n, h, e⟩
  · exact .inl h
  · refine .inr ⟨n, h, ?_⟩
    cases q : S[n]? with
    | none =>
      rw [q] at e
      cases e
    | some o =>
      rw [pre_get k q, ← q]
      exact e
theorem SeqV.len (h : SeqV S v xs) : wp (vLen [v]) S Q = Q (.int xs.length) S := by
  rcases h with rfl | ⟨n, rfl, e⟩
  · exact wp_lenT
  · exact wp_lenR e
theorem SeqV.ix (h : SeqV S v xs) (i : Int) : wp (vIx v (.int i)) S Q = optW (atI xs i) fun c => Q c S := by
  rcases h with rfl | ⟨n, rfl, e⟩
  · exact wp_ixT
  · rw [wp_ixR, e, optW_some]
theorem SeqV.it (h : SeqV S v xs) {QI : CI → CH → Prop} (k : ∀ ci, (∀ S', SeqV S' v xs → ci.len S' = some xs.length ∧ ∀ i, ci.get S' i = xs[i]?) → QI ci S) : wp (vIt v) S QI := by
  rcases h with rfl | ⟨n, rfl, e⟩
  · rw [wp_itT]
    exact k _ fun S' _ => ⟨rfl, fun i => rfl⟩
  · rw [wp_itR e]
    refine k _ fun S' h' => ?_
    rcases h' with h' | ⟨m, h', e'⟩
    · cases h'
    · cases h'
      exact ⟨by unfold CI.len; dsimp only; rw [e']; rfl, fun i => by unfold CI.get; dsimp only; rw [e']; rfl⟩
theorem SeqV.en (h : SeqV S v xs) {QI : CI → CH → Prop} (k : ∀ ci, (∀ S', SeqV S' v xs → ci.len S' = some xs.length ∧ ∀ i, ci.get S' i = (xs[i]?).map fun x => .tup [.int i, x]) → QI ci S) : wp (vEn [v]) S QI := by
  rcases h with rfl | ⟨n, rfl, e⟩
  · rw [wp_enT]
    exact k _ fun S' _ => ⟨rfl, fun i => rfl⟩
  · rw [wp_enR e]
    refine k _ fun S' h' => ?_
    rcases h' with h' | ⟨m, h', e'⟩
    · cases h'
    · cases h'
      exact ⟨by unfold CI.len; dsimp only; rw [e']; rfl, fun i => by unfold CI.get; dsimp only; rw [e']; rfl⟩
theorem SeqV.rev (h : SeqV S v xs) (k : ∀ v' S', S <+: S' → SeqV S' v' xs.reverse → Q v' S') : wp (vRev v) S Q := by
  rcases h with rfl | ⟨n, rfl, e⟩
  · rw [wp_revT]
    exact k _ _ (List.prefix_refl _) .tup
  · rw [wp_revR, e, optW_some]
    exact k _ _ (List.prefix_append _ _) (.lst (by rw [List.getElem?_append_right (Nat.le_refl _), Nat.sub_self]; rfl))
theorem SeqV.isi2 (h : SeqV S v xs) : ∃ t, tyn S v = some t ∧ kit2 t "list" "tuple" = some true := by
  rcases h with rfl | ⟨n, rfl, e⟩
  · exact ⟨"tuple", rfl, by decide +kernel⟩
  · refine ⟨"list", ?_, by decide +kernel⟩
    unfold tyn
    dsimp only
    cases q : S[n]? with
    | none =>
      rw [q] at e
      cases e
    | some o =>
      rw [q] at e
      cases o <;> first | rfl | cases e
theorem new_get {o : CO} : (S ++ [o])[S.length]? = some o := by
  rw [List.getElem?_append_right (Nat.le_refl _), Nat.sub_self]
  rfl
theorem pre_set {n : Nat} {o : CO} (k : S <+: S') (h : S.length ≤ n) : S <+: S'.set n o := by
  obtain ⟨r, rfl⟩ := k
  rw [List.set_append, if_neg (by omega)]
  exact List.prefix_append _ _
end
end G
namespace Lk73
open PySem L2 G
local macro_rules | `(tactic| walk_at "wp") => `(tactic| simp only [wp_sSeq, wp_sAsg, wp_sNil, wp_sExpr, wp_sRet, wp_sRetN, fnQ_ret, fnQ_nx, wp_sIf, wp_gN, wp_gSet, wp_eB, wp_eC, wp_eV, wp_add, wp_sub, wp_mul, wp_div, wp_mod, wp_pow, wp_cmp, wp_cV, vBk_bl, wp_cNot, wp_cAnd, wp_cOr, wp_eAnd, wp_eOr, wp_eNot, wp_eIf, wp_aNil, wp_aCons, wp_eTup, wp_eLst, wp_eCl, wp_int, wp_abs, wp_min, wp_max, wp_eNeg, wp_eIsN, wp_ret, wp_okf, wp_ixR, wp_ixT, optW_some, wo_vSet, wo_isLst, wo_vApp, wo_itR, wo_enR, mlst_lst, lstOf_lst, lstOf_rol, wp_eIsi, wp_eIsi2, wp_sFor, wp_iSeq, wp_iCl, wp_eApp, wp_eRev, wp_eLc, wp_gT, wp_gsCons, wp_gsNil, wp_eqI, wp_sStk, wp_lenT, wp_eChain, wp_tupleT, wp_tupleR, wp_listT, wp_listR, wp_addT, wp_R1,
  Bool.false_bne, Bool.true_bne, Bool.not_eq_true', decide_eq_false_iff_not, Bool.not_true, Bool.not_false, Bool.false_eq_true, Bool.true_eq_false, if_false, if_true, List.getElem?_cons_succ, List.getElem?_cons_zero, List.set_cons_succ, List.set_cons_zero, decide_eq_true_eq, List.length_cons, List.length_nil, Nat.zero_add, Nat.reduceAdd])
variable {S : CH} {Q : CV → CH → Prop}
theorem ki : kitB "int" "int" = some true := by decide +kernel
theorem kib : kitB "int" "bool" = some false := by decide +kernel
theorem kt : kitB "tuple" "tuple" = some true := by decide +kernel
theorem tyn_int {i : Int} : tyn S (.int i) = some "int" := rfl
theorem tyn_tup {xs : List CV} : tyn S (.tup xs) = some "tuple" := rfl
theorem is_integer_ok {i : Int} : wp (m_is_integer [.int i]) S Q = Q (.bl true) S := by
  refine wp_eq ?_
  have h : wp (m_is_integer [.int i]) S fun v S' => v = .bl true ∧ S' = S := by
    refine wp_fn rfl ?_
    show wp (b_is_integer [some (.int i)]) S _
    unfold b_is_integer
    walk_at "wp"
    simp only [tyn_int, optW_some, ki, kib, vBk_bl, if_true, Bool.not_false]
    exact ⟨by trivial, by trivial⟩
  obtain ⟨v, S', e, rfl, rfl⟩ := h
  exact e
theorem is_within_ok {i a b : Int} : wp (m_is_within [.int i, .int a, .int b]) S Q = Q (.bl (decide (a ≤ i) && decide (i ≤ b))) S := by
  refine wp_eq ?_
  have h : wp (m_is_within [.int i, .int a, .int b]) S fun v S' => v = .bl (decide (a ≤ i) && decide (i ≤ b)) ∧ S' = S := by
    refine wp_fn rfl ?_
    show wp (b_is_within [some (.int i), some (.int a), some (.int b)]) S _
    unfold b_is_within
    walk_at "wp"
    simp only [is_integer_ok, vBk_bl, if_true, wp_cmp]
    by_cases h : a ≤ i
    · simp [h, wp_eV, optW_some, wp_cmp, fnQ_ret]
    · simp [h, fnQ_ret]
  obtain ⟨v, S', e, rfl, rfl⟩ := h
  exact e
def mk : Option Int → CV
  | none => .non
  | some i => .int i
def ver (v : Vn) : CV := .tup [.int v.1, mk v.2]
/-- what may stand in a version -/
def OkV (v : Vn) : Prop := (1 ≤ v.1 ∧ v.1 ≤ 1000000000000000000) ∧ ∀ w, v.2 = some w → -1000000000000000000 ≤ w ∧ w ≤ 1000000000000000000
theorem is_pair_ok {v : Vn} : wp (m_is_pair [ver v]) S Q = Q (.bl true) S := by
  refine wp_eq ?_
  have h : wp (m_is_pair [ver v]) S fun v S' => v = .bl true ∧ S' = S := by
    refine wp_fn rfl ?_
    show wp (b_is_pair [some (ver v)]) S _
    unfold b_is_pair ver
    walk_at "wp"
    simp only [tyn_tup, optW_some, kt, vBk_bl, if_true, fnQ_ret]
    exact ⟨by trivial, by trivial⟩
  obtain ⟨v, S', e, rfl, rfl⟩ := h
  exact e
theorem is_commit_ok {i : Int} (h : 1 ≤ i ∧ i ≤ 1000000000000000000) : wp (m_is_commit [.int i]) S Q = Q (.bl true) S := by
  refine wp_eq ?_
  have h : wp (m_is_commit [.int i]) S fun v S' => v = .bl true ∧ S' = S := by
    refine wp_fn rfl ?_
    show wp (b_is_commit [some (.int i)]) S _
    unfold b_is_commit
    walk_at "wp"
    rw [is_within_ok, decide_eq_true h.1, decide_eq_true h.2]
    exact ⟨by trivial, by trivial⟩
  obtain ⟨v, S', e, rfl, rfl⟩ := h
  exact e
theorem is_mark_ok {o : Option Int} (h : ∀ w, o = some w → -1000000000000000000 ≤ w ∧ w ≤ 1000000000000000000) : wp (m_is_mark [mk o]) S Q = Q (.bl true) S := by
  refine wp_eq ?_
  have h : wp (m_is_mark [mk o]) S fun v S' => v = .bl true ∧ S' = S := by
    refine wp_fn rfl ?_
    show wp (b_is_mark [some (mk o)]) S _
    unfold b_is_mark
    walk_at "wp"
    cases o with
    | none => exact ⟨by trivial, by trivial⟩
    | some w =>
      obtain ⟨h1, h2⟩ := h w rfl
      show wp (m_is_worth [.int w]) S _
      refine wp_fn rfl ?_
      show wp (b_is_worth [some (.int w)]) S _
      unfold b_is_worth
      walk_at "wp"
      rw [is_within_ok, decide_eq_true h1, decide_eq_true h2]
      exact ⟨by trivial, by trivial⟩
  obtain ⟨v, S', e, rfl, rfl⟩ := h
  exact e
theorem at2_0 {a b : CV} : atI [a, b] 0 = some a := rfl
theorem at2_1 {a b : CV} : atI [a, b] 1 = some b := rfl
theorem check_versions_ok {v : CV} {vs : List Vn} (h : SeqV S v (vs.map ver)) (hd : Desc vs) (ho : ∀ x ∈ vs, OkV x) : wp (m_check_versions [v]) S Q = Q .non S := by
  refine wp_eq ?_
  have h : wp (m_check_versions [v]) S fun v S' => v = .non ∧ S' = S := by
    refine wp_fn rfl ?_
    show wp (b_check_versions [some v, none, none]) S _
    unfold b_check_versions
    walk_at "wp"
    obtain ⟨t, e1, e2⟩ := h.isi2
    simp only [e1, e2, optW_some, vBk_bl, Bool.not_true, Bool.false_eq_true, if_false]
    refine h.en fun ci hci => ?_
    rw [(hci S h).1, optW_some]
    refine wp_forGo (I := fun i env S' => S' = S ∧ ∃ a b, env = [some v, a, b]) ?_ ?_ _ 0 _ S (Nat.zero_add _) ⟨rfl, none, none, rfl⟩
    · rintro i env S' hi ⟨rfl, a, b, rfl⟩
      rw [List.length_map] at hi
      refine ⟨_, by rw [(hci S' h).2, List.getElem?_map, List.getElem?_eq_getElem hi]; rfl, ?_⟩
      have hv := ho vs[i] (List.getElem_mem hi)
      walk_at "wp"
      refine ⟨trivial, ?_⟩
      have e3 : ver vs[i] = .tup [.int vs[i].1, mk vs[i].2] := rfl
      rw [is_pair_ok, e3]
      simp only [Bool.true_eq_false, wp_ixT, at2_0, at2_1, optW_some, is_commit_ok hv.1, is_mark_ok hv.2, vBk_bl, Bool.not_true, Bool.false_eq_true, if_false]
      by_cases hi0 : (0 : Int) < i
      · rw [if_pos hi0]
        have hj : i - 1 < vs.length := by omega
        rw [h.ix, show ((i : Int) - 1) = ((i - 1 : Nat) : Int) by omega]
        refine optW_of (atI_nat (v := ver vs[i - 1]) (by rw [List.getElem?_map, List.getElem?_eq_getElem hj]; rfl)) ?_
        have e4 : ver vs[i - 1] = .tup [.int vs[i - 1].1, mk vs[i - 1].2] := rfl
        rw [e4]
        simp only [wp_ixT, at2_0, optW_some, wp_cmp, vBk_bl, decide_eq_true_eq]
        rw [if_neg (by have := desc_get hd hj hi (by omega); omega)]
        exact ⟨by trivial, _, _, rfl⟩
      · rw [if_neg hi0]
        exact ⟨by trivial, _, _, rfl⟩
    · rintro env S' ⟨rfl, a, b, rfl⟩
      exact ⟨(hci S' h).1, by trivial, by trivial⟩
  obtain ⟨v, S', e, rfl, rfl⟩ := h
  exact e
theorem check_last_ok {i a : Int} (h : a ≤ i ∧ i ≤ 1000000000000000000) : wp (m_check_last [.int i, .int a]) S Q = Q .non S := by
  refine wp_eq ?_
  have h : wp (m_check_last [.int i, .int a]) S fun v S' => v = .non ∧ S' = S := by
    refine wp_fn rfl ?_
    show wp (b_check_last [some (.int i), some (.int a)]) S _
    unfold b_check_last
    walk_at "wp"
    rw [is_within_ok, decide_eq_true h.1, decide_eq_true h.2]
    exact ⟨by trivial, by trivial⟩
  obtain ⟨v, S', e, rfl, rfl⟩ := h
  exact e
/-- an ascending lot of numbers up to a bound -/
def Lot (op : List Int) (last : Int) : Prop := op.Pairwise (· < ·) ∧ ∀ s ∈ op, 0 ≤ s ∧ s ≤ last
theorem is_lot_ok {op : List Int} {m : Int} (h : Lot op (m - 1)) : wp (m_is_lot [.tup (op.map CV.int), .int m]) S Q = Q (.bl true) S := by
  refine wp_eq ?_
  have hh : wp (m_is_lot [.tup (op.map CV.int), .int m]) S fun v S' => v = .bl true ∧ S' = S := by
    refine wp_fn rfl ?_
    show wp (b_is_lot [some (.tup (op.map CV.int)), some (.int m), none, none]) S _
    unfold b_is_lot
    walk_at "wp"
    simp only [tyn_tup, optW_some, kt, vBk_bl, Bool.not_true, Bool.false_eq_true, if_false, wp_itT]
    rw [show CI.len S (.tup (op.map CV.int)) = some (op.map CV.int).length from rfl, optW_some]
    refine wp_forGo (I := fun i env S' => S' = S ∧ ∃ (a : Option CV) (l : Int), env = [some (.tup (op.map CV.int)), some (.int m), some (.int l), a] ∧ ∀ (k : Nat) (hk : k < op.length), i ≤ k → l < op[k]) ?_ ?_ _ 0 _ S (Nat.zero_add _) ⟨rfl, none, -1, rfl, fun k hk _ => by have := (h.2 op[k] (List.getElem_mem hk)).1; omega⟩
    · rintro i env S' hi ⟨rfl, a, l, rfl, hl⟩
      rw [List.length_map] at hi
      refine ⟨.int op[i], by unfold CI.get; dsimp only; rw [List.getElem?_map, List.getElem?_eq_getElem hi]; rfl, ?_⟩
      walk_at "wp"
      have h1 := hl i hi (Nat.le_refl _)
      have h2 := (h.2 op[i] (List.getElem_mem hi)).2
      rw [is_within_ok, decide_eq_true (by omega), decide_eq_true (by omega)]
      simp only [vBk_bl, Bool.and_self, Bool.not_true, Bool.false_eq_true, if_false]
      exact ⟨by trivial, _, _, rfl, fun k hk hik => List.pairwise_iff_getElem.mp h.1 i k hi hk (by omega)⟩
    · rintro env S' ⟨rfl, a, l, rfl, _⟩
      exact ⟨by trivial, by trivial, by trivial⟩
  obtain ⟨v, S', e, rfl, rfl⟩ := hh
  exact e
theorem check_open_ok {op : List Int} {m : Int} (h : Lot op m) : wp (m_check_open [.tup (op.map CV.int), .int m]) S Q = Q .non S := by
  refine wp_eq ?_
  have h : wp (m_check_open [.tup (op.map CV.int), .int m]) S fun v S' => v = .non ∧ S' = S := by
    refine wp_fn rfl ?_
    show wp (b_check_open [some (.tup (op.map CV.int)), some (.int m)]) S _
    unfold b_check_open
    walk_at "wp"
    rw [is_lot_ok (by rw [Int.add_sub_cancel]; exact h)]
    exact ⟨by trivial, by trivial⟩
  obtain ⟨v, S', e, rfl, rfl⟩ := h
  exact e
/-- all that is passed is right -/
structure Fit (vs : List Vn) (op : List Int) (last : Int) : Prop where
  d : Desc vs
  ok : ∀ x ∈ vs, OkV x
  le : ∀ x ∈ vs, x.1 ≤ last
  l0 : 0 ≤ last
  l1 : last ≤ 1000000000000000000
  lot : Lot op last
theorem check_asked_ok {v : CV} {vs : List Vn} {op : List Int} {last : Int} (h : SeqV S v (vs.map ver)) (F : Fit vs op last) : wp (m_check_asked [v, .tup (op.map CV.int), .int last]) S Q = Q .non S := by
  refine wp_eq ?_
  have hh : wp (m_check_asked [v, .tup (op.map CV.int), .int last]) S fun v S' => v = .non ∧ S' = S := by
    refine wp_fn rfl ?_
    show wp (b_check_asked [some v, some (.tup (op.map CV.int)), some (.int last)]) S _
    unfold b_check_asked
    walk_at "wp"
    simp only [check_versions_ok h F.d F.ok, h.len, wp_cmp, vBk_bl, decide_eq_true_eq, List.length_map]
    cases vs with
    | nil =>
      rw [if_neg (by simp)]
      rw [check_last_ok ⟨F.l0, F.l1⟩, check_open_ok F.lot]
      exact ⟨by trivial, by trivial⟩
    | cons x r =>
      rw [if_pos (by simp)]
      rw [h.ix]
      refine optW_of (a := ver x) (atI_nat (j := 0) rfl) ?_
      have e4 : ver x = .tup [.int x.1, mk x.2] := rfl
      rw [e4]
      simp only [wp_ixT, at2_0, optW_some]
      rw [check_last_ok ⟨F.le x (by simp), F.l1⟩, check_open_ok F.lot]
      exact ⟨by trivial, by trivial⟩
  obtain ⟨v, S', e, rfl, rfl⟩ := hh
  exact e
end Lk73
end
section
set_option Elab.async false
set_option linter.all false
set_option maxRecDepth 100000
set_option maxHeartbeats 4000000
namespace G
open PySem L2
section
variable {S S' : CH} {Q : CV → CH → Prop}
theorem set_at' {S : CH} {h : Nat} {o0 o : CO} (e : S[h]? = some o0) : (S.set h o)[h]? = some o := List.getElem?_set_self (List.getElem?_eq_some_iff.mp e).1
/-- a comprehension whose parts change nothing that stands -/
theorem wp_lcPure {α : Type} {ci : CI} {vs : List Nat} {env : Env} {g : CV → Env → M Env} {cd : Env → M Bool} {elt : Env → M CV} (L : List α) (c : α → CV) (p : α → Bool) (y : α → CV) (hz : L.length < sizeLine)
    (hci : ∀ S', S <+: S' → ci.len S' = some L.length ∧ ∀ i (hi : i < L.length), ci.get S' i = some (c L[i]))
    (hs : ∀ x ∈ L, ∀ S', S <+: S' → wp (g (c x) (wipeE env vs)) S' fun env1 S1 => wp (cd env1) S1 fun b S2 => b = p x ∧ S' <+: S2 ∧ (b = true → wp (elt env1) S2 fun v S3 => v = y x ∧ S2 <+: S3))
    (hk : ∀ S', S <+: S' → S'[S.length]? = some (.lst ((L.filter p).map y)) → Q (.ref S.length) S') : wp (lcGo ci vs env g cd elt S.length L.length 0) (S ++ [.lst []]) Q := by
  refine wp_lcGo (m := L.length) (I := fun i S' => S <+: S' ∧ S'[S.length]? = some (.lst (((L.take i).filter p).map y))) ?_ ?_ _ 0 _ (Nat.zero_add _) ⟨List.prefix_append _ _, new_get⟩
  · rintro i S' hi ⟨k1, k2⟩
    refine ⟨_, (hci S' k1).2 i hi, wp_mono (hs L[i] (List.getElem_mem hi) S' k1) fun env1 S1 q => wp_mono q fun b S2 ⟨e, k3, q2⟩ => ?_⟩
    have et : L.take (i + 1) = L.take i ++ [L[i]] := List.take_succ_eq_append_getElem hi
    cases b with
    | true =>
      rw [if_pos rfl]
      refine wp_mono (q2 rfl) fun v S3 ⟨ev, k4⟩ => ?_
      have k5 := k3.trans k4
      have e3 := pre_get k5 k2
      rw [wp_vApp e3]
      refine ⟨?_, pre_set (k1.trans k5) (Nat.le_refl _), ?_⟩
      · rw [List.length_map]
        exact Nat.lt_of_le_of_lt (List.length_filter_le _ _) (Nat.lt_of_le_of_lt (List.length_take_le _ _) (Nat.lt_of_le_of_lt (Nat.le_of_lt hi) hz))
      · rw [set_at' e3, et, List.filter_append, List.map_append, ev]
        rw [show [L[i]].filter p = [L[i]] by rw [List.filter_cons_of_pos e.symm]; rfl]
        rfl
    | false =>
      rw [if_neg (by decide)]
      refine ⟨k1.trans k3, ?_⟩
      rw [pre_get k3 k2, et, List.filter_append]
      rw [show [L[i]].filter p = [] by rw [List.filter_cons_of_neg (by rw [← e]; decide)]; rfl, List.append_nil]
  · rintro S' ⟨k1, k2⟩
    rw [List.take_of_length_le (Nat.le_refl _)] at k2
    exact ⟨(hci S' k1).1, hk S' k1 k2⟩
theorem mapO_map {α β γ : Type} {f : β → Option γ} {g : α → β} {h : α → γ} : ∀ {L : List α}, (∀ x ∈ L, f (g x) = some (h x)) → mapO f (L.map g) = some (L.map h)
  | [], _ => rfl
  | x :: L, e => by
    rw [List.map_cons]
    unfold mapO
    rw [e x (by simp), mapO_map (L := L) fun y hy => e y (by simp [hy])]
    rfl
theorem datK_of {v : CV} {d : PyData} (h : dat S 70 v = some d) (hs : SeqAt.shaped d = true) : datK S v = some d := by
  unfold datK
  rw [h]
  dsimp only
  rw [if_pos hs]
theorem shaped_of {d : PyData} (h1 : d.canLay0 = true) (h2 : d.depth ≤ 64) : SeqAt.shaped d = true := by
  show (d.canLay0 && decide (d.depth ≤ 64)) = true
  rw [h1, decide_eq_true h2]
  rfl
end
end G
namespace Lk73
open PySem L2 G
local macro_rules | `(tactic| walk_at "wp") => `(tactic| simp only [wp_sSeq, wp_sAsg, wp_sNil, wp_sExpr, wp_sRet, wp_sRetN, fnQ_ret, fnQ_nx, wp_sIf, wp_gN, wp_gSet, wp_eB, wp_eC, wp_eV, wp_add, wp_sub, wp_mul, wp_div, wp_mod, wp_pow, wp_cmp, wp_cV, vBk_bl, wp_cNot, wp_cAnd, wp_cOr, wp_eAnd, wp_eOr, wp_eNot, wp_eIf, wp_aNil, wp_aCons, wp_eTup, wp_eLst, wp_eCl, wp_int, wp_abs, wp_min, wp_max, wp_eNeg, wp_eIsN, wp_ret, wp_okf, wp_ixR, wp_ixT, optW_some, wo_vSet, wo_isLst, wo_vApp, wo_itR, wo_enR, mlst_lst, lstOf_lst, lstOf_rol, wp_eIsi, wp_eIsi2, wp_sFor, wp_iSeq, wp_iCl, wp_eApp, wp_eRev, wp_eLc, wp_gT, wp_gsCons, wp_gsNil, wp_eqI, wp_sStk, wp_lenT, wp_eChain, wp_tupleT, wp_tupleR, wp_listT, wp_listR, wp_addT, wp_R1,
  Bool.false_bne, Bool.true_bne, Bool.not_eq_true', decide_eq_false_iff_not, Bool.not_true, Bool.not_false, Bool.false_eq_true, Bool.true_eq_false, if_false, if_true, List.getElem?_cons_succ, List.getElem?_cons_zero, List.set_cons_succ, List.set_cons_zero, decide_eq_true_eq, List.length_cons, List.length_nil, Nat.zero_add, Nat.reduceAdd])
variable {S : CH} {Q : CV → CH → Prop}
def optV : Option Vn → CV
  | none => .non
  | some v => ver v
def mkD : Option Int → PyData
  | none => .none
  | some i => .int i
def verD (v : Vn) : PyData := .tuple [.int v.1, mkD v.2]
def optD : Option Vn → PyData
  | none => .none
  | some v => verD v
theorem dat_mk {k : Nat} (m : Option Int) : dat S (k + 1) (mk m) = some (mkD m) := by cases m <;> rfl
theorem dat_ver {k : Nat} (v : Vn) : dat S (k + 2) (ver v) = some (verD v) := by
  have e : mapO (dat S (k + 1)) [.int v.1, mk v.2] = some [.int v.1, mkD v.2] := by
    unfold mapO
    rw [show dat S (k + 1) (.int v.1) = some (.int v.1) from rfl]
    unfold mapO
    rw [dat_mk]
    rfl
  show (match mapO (dat S (k + 1)) [.int v.1, mk v.2] with | some ds => some (PyData.tuple ds) | none => none) = _
  rw [e]
  rfl
theorem dat_opt {k : Nat} (v : Option Vn) : dat S (k + 2) (optV v) = some (optD v) := by
  cases v with
  | none => rfl
  | some v => exact dat_ver v
theorem lay_mk (m : Option Int) : (mkD m).canLay0 = true := by cases m <;> simp [mkD, PyData.canLay0]
theorem dep_mk (m : Option Int) : (mkD m).depth = 0 := by cases m <;> simp [mkD, PyData.depth]
theorem lay_ver (v : Vn) : (verD v).canLay0 = true := by simp [verD, PyData.canLay0, PyData.canLayAll0, lay_mk]
theorem dep_ver (v : Vn) : (verD v).depth ≤ 1 := by simp [verD, PyData.depth, PyData.depthAll, dep_mk]
theorem lay_opt (v : Option Vn) : (optD v).canLay0 = true := by
  cases v with
  | none => simp [optD, PyData.canLay0]
  | some v => exact lay_ver v
theorem dep_opt (v : Option Vn) : (optD v).depth ≤ 1 := by
  cases v with
  | none => simp [optD, PyData.depth]
  | some v => exact dep_ver v
theorem lay_opts : ∀ L : List (Option Vn), PyData.canLayAll0 (L.map optD) = true
  | [] => by simp [PyData.canLayAll0]
  | v :: L => by simp [PyData.canLayAll0, lay_opt v, lay_opts L]
theorem dep_opts : ∀ L : List (Option Vn), PyData.depthAll (L.map optD) ≤ 1
  | [] => by simp [PyData.depthAll]
  | v :: L => by
    have h1 := dep_opts L
    have h2 := dep_opt v
    simp only [List.map_cons, PyData.depthAll]
    omega
theorem eqv_mk (a b : Option Int) : PyData.eqv (mkD a) (mkD b) = decide (a = b) := by
  cases a <;> cases b <;> simp [mkD, PyData.eqv]
  rename_i i j
  exact dec_int.symm.trans (by by_cases q : i = j <;> simp [q])
theorem eqv_ver (a b : Vn) : PyData.eqv (verD a) (verD b) = decide (a = b) := by
  have e : PyData.eqv (verD a) (verD b) = ((a.1 == b.1) && ((PyData.eqv (mkD a.2) (mkD b.2)) && true)) := by simp only [verD, PyData.eqv, PyData.eqvAll]
  rw [e, eqv_mk]
  obtain ⟨a1, a2⟩ := a
  obtain ⟨b1, b2⟩ := b
  by_cases h1 : a1 = b1 <;> by_cases h2 : a2 = b2 <;> simp [h1, h2]
theorem eqv_opt (a : Option Vn) (b : Vn) : PyData.eqv (optD a) (verD b) = decide (a = some b) := by
  cases a with
  | none => simp [optD, verD, PyData.eqv]
  | some a =>
    rw [show optD (some a) = verD a from rfl, eqv_ver]
    simp
theorem seen_of_ok {v : CV} {vs : List Vn} {s : Int} (h : SeqV S v (vs.map ver)) : wp (m_seen_of [v, .int s]) S Q = Q (optV (seenP vs s)) S := by
  refine wp_eq ?_
  have hh : wp (m_seen_of [v, .int s]) S fun r S' => r = optV (seenP vs s) ∧ S' = S := by
    refine wp_fn rfl ?_
    show wp (b_seen_of [some v, some (.int s), none]) S _
    unfold b_seen_of
    walk_at "wp"
    refine h.it fun ci hci => ?_
    rw [(hci S h).1, optW_some]
    refine wp_forGo (I := fun i env S' => S' = S ∧ seenP vs s = seenP (vs.drop i) s ∧ ∃ a, env = [some v, some (.int s), a]) ?_ ?_ _ 0 _ S (Nat.zero_add _) ⟨rfl, rfl, none, rfl⟩
    · rintro i env S' hi ⟨rfl, e, a, rfl⟩
      rw [List.length_map] at hi
      refine ⟨ver vs[i], by rw [(hci S' h).2, List.getElem?_map, List.getElem?_eq_getElem hi]; rfl, ?_⟩
      walk_at "wp"
      have e3 : ver vs[i] = .tup [.int vs[i].1, mk vs[i].2] := rfl
      rw [e3]
      simp only [wp_ixT, at2_0, optW_some, wp_cmp, vBk_bl, decide_eq_true_eq]
      rw [List.drop_eq_getElem_cons hi] at e
      unfold seenP at e
      rw [List.find?_cons] at e
      by_cases q : vs[i].1 ≤ s
      · rw [decide_eq_true q] at e
        rw [if_pos q]
        refine ⟨?_, by trivial⟩
        unfold seenP
        rw [e]
        rfl
      · rw [decide_eq_false q] at e
        rw [if_neg q]
        exact ⟨by trivial, e, _, rfl⟩
    · rintro env S' ⟨rfl, e, a, rfl⟩
      refine ⟨(hci S' h).1, ?_, by trivial⟩
      rw [e, List.drop_of_length_le (by rw [List.length_map]; exact Nat.le_refl _)]
      rfl
  obtain ⟨v, S', e, rfl, rfl⟩ := hh
  exact e
theorem small_line {n : Nat} (h : n ≤ 1000) : n < sizeLine := small1000 h
theorem asked_of_ok {op : List Int} {last : Int} (hz : op.length ≤ 100) (k : ∀ S', S <+: S' → Q (.tup ((askedP op last).map CV.int)) S') : wp (m_asked_of [.tup (op.map CV.int), .int last]) S Q := by
  refine wp_fn rfl ?_
  show wp (b_asked_of [some (.tup (op.map CV.int)), some (.int last), none]) S _
  unfold b_asked_of
  walk_at "wp"
  rw [wp_itT, show CI.len S (.tup (op.map CV.int)) = some op.length by rw [← List.length_map (f := CV.int)]; rfl, optW_some]
  refine wp_lcPure op CV.int (fun s => decide (s < last)) CV.int (small_line (by omega)) (fun S' _ => ⟨by rw [← List.length_map (f := CV.int)]; rfl, fun i hi => by show (op.map CV.int)[i]? = _; rw [List.getElem?_map, List.getElem?_eq_getElem hi]; rfl⟩) (fun x _ S' _ => ?_) fun S' k1 k2 => ?_
  · show wp (gN 2 (.int x) [some (.tup (op.map CV.int)), some (.int last), none]) S' _
    walk_at "wp"
    exact ⟨by trivial, List.prefix_refl _, fun _ => ⟨by trivial, List.prefix_refl _⟩⟩
  · walk_at "wp"
    rw [k2, lstOf_lst, optW_some]
    refine ⟨by decide, ?_, ?_⟩
    · rw [List.length_map]
      exact Nat.le_of_lt (small_line (by have := List.length_filter_le (fun s => decide (s < last)) op; omega))
    · have := k S' k1
      unfold askedP at this
      rw [List.map_append] at this
      exact this
theorem length_asked (op : List Int) (last : Int) : (askedP op last).length ≤ op.length + 1 := by
  unfold askedP
  rw [List.length_append]
  have := List.length_filter_le (fun s => decide (s < last)) op
  simp
  exact this
theorem fold_len {c : Vn → Bool} : ∀ (L : List Vn) (acc : List Int), (L.foldl (stepN c) acc).length ≤ acc.length + L.length
  | [], acc => Nat.le_refl _
  | v :: L, acc => by
    have h1 := fold_len (c := c) L (stepN c acc v)
    have h2 : (stepN c acc v).length ≤ acc.length + 1 := by
      unfold stepN
      split
      · simp
      · omega
    rw [List.foldl_cons, List.length_cons]
    omega
theorem isNon_mk (m : Option Int) : (mk m).isNon = m.isNone := by cases m <;> rfl
theorem needed_of_ok {v : CV} {vs : List Vn} {op : List Int} {last : Int} (h : SeqV S v (vs.map ver)) (F : Fit vs op last) (hz : op.length ≤ 100) (hz2 : vs.length ≤ 100) (k : ∀ S', S <+: S' → Q (.tup ((NP vs op).map CV.int)) S') :
    wp (m_needed_of [v, .tup (op.map CV.int), .int last]) S Q := by
  refine wp_fn rfl ?_
  show wp (b_needed_of [some v, some (.tup (op.map CV.int)), some (.int last), none, none, none, none]) S _
  unfold b_needed_of
  walk_at "wp"
  refine asked_of_ok hz fun S1 k1 => ?_
  have h1 := h.keep k1
  have la := length_asked op last
  rw [wp_itT, show CI.len S1 (.tup ((askedP op last).map CV.int)) = some (askedP op last).length by rw [← List.length_map (f := CV.int)]; rfl, optW_some]
  refine wp_lcPure (askedP op last) CV.int (fun _ => true) (fun s => optV (seenP vs s)) (small_line (by omega)) (fun S' _ => ⟨by rw [← List.length_map (f := CV.int)]; rfl, fun i hi => by show ((askedP op last).map CV.int)[i]? = _; rw [List.getElem?_map, List.getElem?_eq_getElem hi]; rfl⟩) (fun x _ S' k2 => ?_) fun S2 k2 k3 => ?_
  · show wp (gN 6 (.int x) [some v, some (.tup (op.map CV.int)), some (.int last), none, none, none, none]) S' _
    walk_at "wp"
    unfold cYes
    walk_at "wp"
    refine ⟨by trivial, List.prefix_refl _, fun _ => ?_⟩
    rw [seen_of_ok (h1.keep k2)]
    exact ⟨rfl, List.prefix_refl _⟩
  · have kk := k1.trans k2
    have h2 := h.keep kk
    have e3 : S2[S1.length]? = some (.lst (((askedP op last).map (seenP vs)).map optV)) := by
      rw [k3, List.filter_eq_self.mpr (fun _ _ => rfl), List.map_map]
      rfl
    refine ⟨Nat.zero_le _, ?_⟩
    have h3 : SeqV (S2 ++ [.lst []]) v (vs.map ver) := h2.keep (List.prefix_append _ _)
    refine h3.rev fun v' S3 k4 h4 => ?_
    have kk3 : S2 <+: S3 := (List.prefix_append _ _).trans k4
    have kk4 : S <+: S3 := kk.trans kk3
    have e4 : S3[S2.length]? = some (.lst []) := pre_get k4 new_get
    refine h4.it fun ci hci => ?_
    rw [(hci S3 h4).1, optW_some]
    have lr : (vs.map ver).reverse.length = vs.reverse.length := by simp
    refine wp_forGo (I := fun i env S' => S2 <+: S' ∧ SeqV S' v' (vs.map ver).reverse ∧ S'[S2.length]? = some (.lst (((vs.reverse.take i).foldl (stepN (isS vs op)) []).map CV.int)) ∧ ∃ a b, env = [some v, some (.tup (op.map CV.int)), some (.int last), some (.ref S1.length), some (.ref S2.length), a, b]) ?_ ?_ _ 0 _ S3 (Nat.zero_add _) ⟨kk3, h4, e4, _, _, rfl⟩
    · rintro i env S' hi ⟨k5, h5, e5, a, b, rfl⟩
      rw [lr] at hi
      have hi' : i < vs.reverse.length := hi
      refine ⟨ver vs.reverse[i], by rw [(hci S' h5).2, ← List.map_reverse, List.getElem?_map, List.getElem?_eq_getElem hi']; rfl, ?_⟩
      walk_at "wp"
      have e6 := pre_get k5 e3
      rw [show vIn false = vIn false from rfl]
      have ein : ∀ Q : CV → CH → Prop, wp (vIn false (ver vs.reverse[i]) (.ref S1.length)) S' Q = Q (.bl (isS vs op vs.reverse[i])) S' := fun Q => by
        refine wp_eq ?_
        unfold vIn
        rw [datK_of (dat_ver _) (shaped_of (lay_ver _) (Nat.le_trans (dep_ver _) (by decide)))]
        have ed : datK S' (.ref S1.length) = some (.list (((askedP op last).map (seenP vs)).map optD)) := by
          refine datK_of ?_ (shaped_of ?_ ?_)
          · unfold dat
            dsimp only
            rw [e6, lstOf_lst]
            dsimp only
            rw [mapO_map (h := optD) fun x _ => dat_opt x]
          · simp only [PyData.canLay0]
            exact lay_opts _
          · simp only [PyData.depth]
            have := dep_opts ((askedP op last).map (seenP vs))
            omega
        rw [ed]
        dsimp only
        rw [Bool.false_bne, List.any_map]
        congr 3
        rw [← asked_seen F.d F.le (fun s hs => (F.lot.2 s hs).2)]
        congr 1
        funext z
        exact eqv_opt z _
      rw [ein]
      have et : vs.reverse.take (i + 1) = vs.reverse.take i ++ [vs.reverse[i]] := List.take_succ_eq_append_getElem hi'
      rw [et, List.foldl_append]
      have lb := fold_len (c := isS vs op) (vs.reverse.take i) []
      have lt : (vs.reverse.take i).length ≤ 100 := by
        rw [List.length_take]
        simp at hi' ⊢
        omega
      generalize (vs.reverse.take i).foldl (stepN (isS vs op)) [] = acc at e5 lb ⊢
      have e7 : ver vs.reverse[i] = .tup [.int vs.reverse[i].1, mk vs.reverse[i].2] := rfl
      rw [e7]
      simp only [vBk_bl, wp_ixT, at2_0, at2_1, optW_some, isNon_mk, wp_lenR (S := S') (n := S2.length) (xs := acc.map CV.int) (by rw [e5]; rfl), wp_cmp, decide_eq_true_eq, List.length_map, e5, mlst_lst, List.foldl_cons, List.foldl_nil]
      have key : ∀ P : Prop, P = P := fun _ => rfl
      have yes : (acc.map CV.int).length < sizeLine := small_line (by rw [List.length_map]; simp at lb; omega)
      have no : ∀ (hq : ¬ (isS vs op vs.reverse[i] && (vs.reverse[i].2.isSome || !acc.isEmpty)) = true) (e : G.Env), e = [some v, some (.tup (op.map CV.int)), some (.int last), some (.ref S1.length), some (.ref S2.length), some (.tup [.int vs.reverse[i].1, mk vs.reverse[i].2]), b] → S2 <+: S' ∧ SeqV S' v' (vs.map ver).reverse ∧ some (CO.lst (acc.map CV.int)) = some (.lst ((stepN (isS vs op) acc vs.reverse[i]).map CV.int)) ∧ ∃ a b, e = [some v, some (.tup (op.map CV.int)), some (.int last), some (.ref S1.length), some (.ref S2.length), a, b] := fun hq e he => by
        refine ⟨k5, h5, ?_, _, _, he⟩
        unfold stepN
        rw [if_neg hq]
      have on : ∀ (hq : (isS vs op vs.reverse[i] && (vs.reverse[i].2.isSome || !acc.isEmpty)) = true) (e : G.Env), e = [some v, some (.tup (op.map CV.int)), some (.int last), some (.ref S1.length), some (.ref S2.length), some (.tup [.int vs.reverse[i].1, mk vs.reverse[i].2]), b] → acc.length < sizeLine ∧ S2 <+: (S'.set S2.length (.lst (acc.map CV.int ++ [.int vs.reverse[i].1]))) ∧ SeqV (S'.set S2.length (.lst (acc.map CV.int ++ [.int vs.reverse[i].1]))) v' (vs.map ver).reverse ∧ (S'.set S2.length (.lst (acc.map CV.int ++ [.int vs.reverse[i].1])))[S2.length]? = some (.lst ((stepN (isS vs op) acc vs.reverse[i]).map CV.int)) ∧ ∃ a b, e = [some v, some (.tup (op.map CV.int)), some (.int last), some (.ref S1.length), some (.ref S2.length), a, b] := fun hq e he => by
        refine ⟨by simpa using yes, pre_set k5 (Nat.le_refl _), ?_, ?_, _, _, he⟩
        · rcases h5 with q | ⟨m, q, q2⟩
          · exact .inl q
          · refine .inr ⟨m, q, ?_⟩
            have hm : S2.length ≠ m := by
              intro z
              -- the reversed list is not the one that is filled: it stood as it is when that was empty
              subst z
              rcases h4 with z | ⟨m', z, z2⟩
              · rw [q] at z
                cases z
              · rw [q] at z
                cases z
                rw [e4] at z2
                have z3 : ([] : List CV) = (vs.map ver).reverse := Option.some.inj z2
                have : (vs.map ver).reverse.length = 0 := by rw [← z3]; rfl
                rw [lr] at this
                omega
            rw [List.getElem?_set_ne hm]
            exact q2
        · rw [set_at' e5]
          unfold stepN
          rw [if_pos hq, List.map_append]
          rfl
      cases c1 : isS vs op vs.reverse[i] with
      | false =>
        rw [if_neg (by decide)]
        exact no (by rw [c1]; simp) _ rfl
      | true =>
        rw [if_pos rfl]
        cases c2 : vs.reverse[i].2 with
        | some w =>
          simp only [Option.isNone_some, Bool.not_false, if_true, wp_isLst e5, wp_eB, wp_eV, wp_eC, List.getElem?_cons_succ, List.getElem?_cons_zero, optW_some, wp_ixT, at2_0, wp_vApp e5, List.length_map]
          have := on (by rw [c1, c2]; rfl) _ rfl
          rw [c2] at this
          exact this
        | none =>
          simp only [Option.isNone_none, Bool.not_true, Bool.false_eq_true, if_false]
          by_cases c3 : (0 : Int) < acc.length
          · rw [if_pos c3]
            have := on (by rw [c1, c2]; cases acc with
              | nil => simp at c3
              | cons _ _ => rfl) _ rfl
            rw [c2] at this
            exact this
          · rw [if_neg c3]
            have := no (by rw [c1, c2]; cases acc with
              | nil => simp
              | cons _ _ => simp at c3) _ rfl
            rw [c2] at this
            exact this
    · rintro env S' ⟨k5, h5, e5, a, b, rfl⟩
      refine ⟨(hci S' h5).1, ?_⟩
      walk_at "wp"
      rw [e5, lstOf_lst, optW_some]
      rw [List.take_of_length_le (by rw [lr]; exact Nat.le_refl _)]
      exact k S' (kk.trans k5)
end Lk73
end
section
set_option Elab.async false
set_option linter.all false
set_option maxRecDepth 100000
set_option maxHeartbeats 4000000
namespace Lk73
open PySem L2 G
local macro_rules | `(tactic| walk_at "wp") => `(tactic| simp only [wp_sSeq, wp_sAsg, wp_sNil, wp_sExpr, wp_sRet, wp_sRetN, fnQ_ret, fnQ_nx, wp_sIf, wp_gN, wp_gSet, wp_eB, wp_eC, wp_eV, wp_add, wp_sub, wp_mul, wp_div, wp_mod, wp_pow, wp_cmp, wp_cV, vBk_bl, wp_cNot, wp_cAnd, wp_cOr, wp_eAnd, wp_eOr, wp_eNot, wp_eIf, wp_aNil, wp_aCons, wp_eTup, wp_eLst, wp_eCl, wp_int, wp_abs, wp_min, wp_max, wp_eNeg, wp_eIsN, wp_ret, wp_okf, wp_ixR, wp_ixT, optW_some, wo_vSet, wo_isLst, wo_vApp, wo_itR, wo_enR, mlst_lst, lstOf_lst, lstOf_rol, wp_eIsi, wp_eIsi2, wp_sFor, wp_iSeq, wp_iCl, wp_eApp, wp_eRev, wp_eLc, wp_gT, wp_gsCons, wp_gsNil, wp_eqI, wp_sStk, wp_lenT, wp_eChain, wp_tupleT, wp_tupleR, wp_listT, wp_listR, wp_addT, wp_R1,
  Bool.false_bne, Bool.true_bne, Bool.not_eq_true', decide_eq_false_iff_not, Bool.not_true, Bool.not_false, Bool.false_eq_true, Bool.true_eq_false, if_false, if_true, List.getElem?_cons_succ, List.getElem?_cons_zero, List.set_cons_succ, List.set_cons_zero, decide_eq_true_eq, List.length_cons, List.length_nil, Nat.zero_add, Nat.reduceAdd])
variable {S S' S1 S2 : CH} {Q : CV → CH → Prop} {h cb : Nat}
/-- all but the bag stands -/
def Fr (h : Nat) (S S' : CH) : Prop := S.length ≤ S'.length ∧ ∀ m o, m ≠ h → S[m]? = some o → S'[m]? = some o
theorem Fr.rfl' : Fr h S S := ⟨Nat.le_refl _, fun _ _ _ e => e⟩
theorem Fr.tr (a : Fr h S S1) (b : Fr h S1 S2) : Fr h S S2 := ⟨Nat.le_trans a.1 b.1, fun m o n e => b.2 m o n (a.2 m o n e)⟩
theorem Fr.pre (k : S <+: S') : Fr h S S' := ⟨k.length_le, fun m o _ e => pre_get k e⟩
theorem Fr.app {o : CO} : Fr h S (S ++ [o]) := .pre (List.prefix_append _ _)
/-- a list in the store that is not the bag stays -/
theorem Fr.set {n : Nat} {o : CO} (a : Fr h S S') (k : S.length ≤ n) : Fr h S (S'.set n o) := ⟨by rw [List.length_set]; exact a.1, fun m o' q e => by
  have hm := (List.getElem?_eq_some_iff.mp e).1
  rw [List.getElem?_set_ne (by omega)]
  exact a.2 m o' q e⟩
def BG (S : CH) (h cb n : Nat) : Prop := ∃ ns at' big cnt, Bag S h cb ns at' big cnt ∧ cnt ≤ (n : Int)
theorem BG.lt {n : Nat} (B : BG S h cb n) : h < S.length := by
  obtain ⟨ns, a, b, cnt, B, _⟩ := B
  exact (List.getElem?_eq_some_iff.mp B.o).1
theorem BG.ltc {n : Nat} (B : BG S h cb n) : cb < S.length := by
  obtain ⟨ns, a, b, cnt, B, _⟩ := B
  have := B.cs
  refine Nat.lt_of_not_ge fun q => ?_
  rw [List.getElem?_eq_none q] at this
  cases this
theorem BG.up {n m : Nat} (B : BG S h cb n) (hm : n ≤ m) : BG S h cb m := by
  obtain ⟨ns, a, b, cnt, B, k⟩ := B
  exact ⟨ns, a, b, cnt, B, by omega⟩
theorem lst_fr {S S' : CH} {m : Nat} {xs : List CV} (e : lstOf S[m]? = some xs) (k : ∀ o, S[m]? = some o → S'[m]? = some o) : lstOf S'[m]? = some xs := by
  cases q : S[m]? with
  | none =>
    rw [q] at e
    cases e
  | some o =>
    rw [k o q, ← q]
    exact e
theorem BG.pre {n : Nat} (B : BG S h cb n) (k : S <+: S') : BG S' h cb n := by
  obtain ⟨ns, a, b, cnt, B, hc⟩ := B
  exact ⟨ns, a, b, cnt, ⟨pre_get k B.o, lst_fr B.cs fun o e => pre_get k e, B.ne, B.p1, B.p2, B.p3⟩, hc⟩
theorem BG.app {n : Nat} {o : CO} (B : BG S h cb n) : BG (S ++ [o]) h cb n := B.pre (List.prefix_append _ _)
/-- a list that is not the bag's changes -/
theorem BG.set {n m : Nat} {o : CO} (B : BG S' h cb n) (h1 : h ≠ m) (h2 : cb ≠ m) : BG (S'.set m o) h cb n := by
  obtain ⟨ns, a, b, cnt, B, hc⟩ := B
  exact ⟨ns, a, b, cnt, ⟨by rw [List.getElem?_set_ne (by omega)]; exact B.o, by rw [List.getElem?_set_ne (by omega)]; exact B.cs, B.ne, B.p1, B.p2, B.p3⟩, hc⟩
theorem draw_bg {n : Nat} {many : Int} (B : BG S h cb n) (hn : n < 900000) (hm : 0 < many) (hz : many < 18446744073709551616) (k : ∀ d S', 0 ≤ d → d < many → Fr h S S' → BG S' h cb (n + 1) → Q (.int d) S') : wp (m__law_draw [.ref h, .int many]) S Q := by
  obtain ⟨ns, a, b, cnt, B, hc⟩ := B
  refine draw_ok B (by omega) hm hz fun d at2 big2 h1 h2 h3 h4 => k d _ h1 h2 ⟨by rw [List.length_set]; exact Nat.le_refl _, fun m o q e => by rw [List.getElem?_set_ne (by omega)]; exact e⟩ ⟨ns, at2, big2, cnt + 1, ⟨set_at B.o, by rw [List.getElem?_set_ne B.ne.symm]; exact B.cs, B.ne, h3, h4, by have := B.p3; omega⟩, by omega⟩
theorem p18 : (10 : Int) ^ (18 : Int).toNat = 1000000000000000000 := rfl
theorem p16 : (10 : Int) ^ (16 : Int).toNat = 10000000000000000 := rfl
theorem p17 : (10 : Int) ^ (17 : Int).toNat = 100000000000000000 := rfl
theorem at4 {a b c d : CV} {e : Int} (h1 : 0 ≤ e) (h2 : e < 4) : ∃ x, atI [a, b, c, d] e = some x ∧ (x = a ∨ x = b ∨ x = c ∨ x = d) := by
  have : e = 0 ∨ e = 1 ∨ e = 2 ∨ e = 3 := by omega
  rcases this with rfl | rfl | rfl | rfl
  · exact ⟨a, rfl, by simp⟩
  · exact ⟨b, rfl, by simp⟩
  · exact ⟨c, rfl, by simp⟩
  · exact ⟨d, rfl, by simp⟩
theorem at3' {a b c : CV} {e : Int} (h1 : 0 ≤ e) (h2 : e < 3) : ∃ x, atI [a, b, c] e = some x ∧ (x = a ∨ x = b ∨ x = c) := by
  have : e = 0 ∨ e = 1 ∨ e = 2 := by omega
  rcases this with rfl | rfl | rfl
  · exact ⟨a, rfl, by simp⟩
  · exact ⟨b, rfl, by simp⟩
  · exact ⟨c, rfl, by simp⟩
theorem rng_get {j : Nat} {S : CH} {k : Nat} (h : k < j) : (CI.rng 0 j).get S k = some (.int k) := by
  unfold CI.get
  dsimp only
  rw [if_pos h, Int.zero_add]
/-- what the law's own list is like -/
structure Vs (vs : List Vn) : Prop where
  n : vs.length ≤ 40
  d : Desc vs
  ok : ∀ x ∈ vs, OkV x
  le : ∀ x ∈ vs, x.1 ≤ 400000000000000040
end Lk73
end
section
set_option Elab.async false
set_option linter.all false
set_option maxRecDepth 100000
set_option maxHeartbeats 4000000
namespace G
open PySem L2
section
variable {S S' : CH} {Q : CV → CH → Prop}
theorem lay_ints : ∀ ns : List Int, PyData.canLayAll0 (ns.map PyData.int) = true
  | [] => by simp [PyData.canLayAll0]
  | i :: r => by simp [PyData.canLayAll0, PyData.canLay0, lay_ints r]
theorem dep_ints : ∀ ns : List Int, PyData.depthAll (ns.map PyData.int) = 0
  | [] => by simp [PyData.depthAll]
  | i :: r => by simp [PyData.depthAll, PyData.depth, dep_ints r]
theorem dat_int {k : Nat} {i : Int} : dat S (k + 1) (.int i) = some (.int i) := rfl
theorem datK_ints {v : CV} {ns : List Int} (h : SeqV S v (ns.map CV.int)) : datK S v = some (.tuple (ns.map .int)) ∨ datK S v = some (.list (ns.map .int)) := by
  rcases h with rfl | ⟨n, rfl, e⟩
  · refine .inl (datK_of ?_ (shaped_of ?_ ?_))
    · unfold dat
      dsimp only
      rw [mapO_map (h := PyData.int) fun x _ => dat_int]
    · simp only [PyData.canLay0]
      exact lay_ints ns
    · simp only [PyData.depth, dep_ints]
      omega
  · refine .inr (datK_of ?_ (shaped_of ?_ ?_))
    · unfold dat
      dsimp only
      rw [e]
      dsimp only
      rw [mapO_map (h := PyData.int) fun x _ => dat_int]
    · simp only [PyData.canLay0]
      exact lay_ints ns
    · simp only [PyData.depth, dep_ints]
      omega
theorem eqv_int {i j : Int} : PyData.eqv (.int i) (.int j) = decide (i = j) := by
  rw [show PyData.eqv (.int i) (.int j) = (i == j) by simp [PyData.eqv]]
  exact dec_int.symm.trans (by by_cases q : i = j <;> simp [q])
theorem any_int {ns : List Int} {i : Int} : ((ns.map PyData.int).any fun z => PyData.eqv z (.int i)) = decide (i ∈ ns) := by
  rw [List.any_map, Bool.eq_iff_iff, List.any_eq_true, decide_eq_true_eq]
  simp only [Function.comp, eqv_int, decide_eq_true_eq]
  exact ⟨fun ⟨x, hx, e⟩ => e ▸ hx, fun hx => ⟨i, hx, rfl⟩⟩
theorem wp_inI {neg : Bool} {i : Int} {v : CV} {ns : List Int} (h : SeqV S v (ns.map CV.int)) : wp (vIn neg (.int i) v) S Q = Q (.bl (neg != decide (i ∈ ns))) S := by
  refine wp_eq ?_
  unfold vIn
  rw [datK_int]
  rcases datK_ints h with e | e
  all_goals
    rw [e]
    dsimp only
    rw [any_int]
end
end G
namespace Lk73
open PySem L2 G
local macro_rules | `(tactic| walk_at "wp") => `(tactic| simp only [wp_sSeq, wp_sAsg, wp_sNil, wp_sExpr, wp_sRet, wp_sRetN, fnQ_ret, fnQ_nx, wp_sIf, wp_gN, wp_gSet, wp_eB, wp_eC, wp_eV, wp_add, wp_sub, wp_mul, wp_div, wp_mod, wp_pow, wp_cmp, wp_cV, vBk_bl, wp_cNot, wp_cAnd, wp_cOr, wp_eAnd, wp_eOr, wp_eNot, wp_eIf, wp_aNil, wp_aCons, wp_eTup, wp_eLst, wp_eCl, wp_int, wp_abs, wp_min, wp_max, wp_eNeg, wp_eIsN, wp_ret, wp_okf, wp_ixR, wp_ixT, optW_some, wo_vSet, wo_isLst, wo_vApp, wo_itR, wo_enR, mlst_lst, lstOf_lst, lstOf_rol, wp_eIsi, wp_eIsi2, wp_sFor, wp_iSeq, wp_iCl, wp_eApp, wp_eRev, wp_eLc, wp_gT, wp_gsCons, wp_gsNil, wp_eqI, vBk_bl, wp_sStk, wp_lenT, wp_eChain, wp_tupleT, wp_tupleR, wp_listT, wp_listR, wp_addT, wp_R1,
  Bool.false_bne, Bool.true_bne, Bool.not_eq_true', decide_eq_false_iff_not, Bool.not_true, Bool.not_false, Bool.false_eq_true, Bool.true_eq_false, if_false, if_true, List.getElem?_cons_succ, List.getElem?_cons_zero, List.set_cons_succ, List.set_cons_zero, decide_eq_true_eq, List.length_cons, List.length_nil, Nat.zero_add, Nat.reduceAdd])
variable {S S' S1 S2 : CH} {Q : CV → CH → Prop} {h cb : Nat}
theorem at_ver {vs : List Vn} {e : Int} (h1 : 0 ≤ e) (h2 : e < vs.length) : ∃ (k : Nat) (hk : k < vs.length), e = k ∧ atI (vs.map ver) e = some (.tup [.int vs[k].1, mk vs[k].2]) := by
  obtain ⟨k, rfl⟩ : ∃ k : Nat, e = k := ⟨e.toNat, by omega⟩
  refine ⟨k, by omega, rfl, ?_⟩
  exact atI_nat (by rw [List.getElem?_map, List.getElem?_eq_getElem (by omega)]; rfl)
theorem lot_sort {ns : List Int} {last : Int} (hn : ns.Nodup) (hb : ∀ s ∈ ns, 0 ≤ s ∧ s ≤ last) : Lot (sortI ns) last := by
  refine ⟨?_, fun s hs => hb s ((sortI_perm ns).mem_iff.mp hs)⟩
  have h1 := sortI_pair ns
  have h2 : (sortI ns).Nodup := (sortI_perm ns).nodup_iff.mpr hn
  exact (h1.and h2).imp fun {a b} ⟨q, r⟩ => by omega
theorem needed_ok {v : CV} {vs : List Vn} {op : List Int} {last : Int} (h : SeqV S v (vs.map ver)) (F : Fit vs op last) (hz : op.length ≤ 100) (hz2 : vs.length ≤ 100) (k : ∀ S', S <+: S' → Q (.tup ((NP vs op).map CV.int)) S') :
    wp (m_needed [v, .tup (op.map CV.int), .int last]) S Q := by
  refine wp_fn rfl ?_
  show wp (b_needed [some v, some (.tup (op.map CV.int)), some (.int last)]) S _
  unfold b_needed
  walk_at "wp"
  rw [check_asked_ok h F]
  exact needed_of_ok h F hz hz2 k
end Lk73
namespace Lk73
open PySem L2 G
local macro_rules | `(tactic| walk_at "wp") => `(tactic| simp only [wp_sSeq, wp_sAsg, wp_sNil, wp_sExpr, wp_sRet, wp_sRetN, fnQ_ret, fnQ_nx, wp_sIf, wp_gN, wp_gSet, wp_eB, wp_eC, wp_eV, wp_add, wp_sub, wp_mul, wp_div, wp_mod, wp_pow, wp_cmp, wp_cV, vBk_bl, wp_cNot, wp_cAnd, wp_cOr, wp_eAnd, wp_eOr, wp_eNot, wp_eIf, wp_aNil, wp_aCons, wp_eTup, wp_eLst, wp_eCl, wp_int, wp_abs, wp_min, wp_max, wp_eNeg, wp_eIsN, wp_ret, wp_okf, wp_ixR, wp_ixT, optW_some, wo_vSet, wo_isLst, wo_vApp, wo_itR, wo_enR, mlst_lst, lstOf_lst, lstOf_rol, wp_eIsi, wp_eIsi2, wp_sFor, wp_iSeq, wp_iCl, wp_eApp, wp_eRev, wp_eLc, wp_gT, wp_gsCons, wp_gsNil, wp_eqI, wp_eSl, wp_oNone, wp_oSome, wp_slR, vBk_bl, wp_sStk, wp_lenT, wp_eChain, wp_tupleT, wp_tupleR, wp_listT, wp_listR, wp_addT, wp_R1,
  Bool.false_bne, Bool.true_bne, Bool.not_eq_true', decide_eq_false_iff_not, Bool.not_true, Bool.not_false, Bool.false_eq_true, Bool.true_eq_false, if_false, if_true, List.getElem?_cons_succ, List.getElem?_cons_zero, List.set_cons_succ, List.set_cons_zero, decide_eq_true_eq, List.length_cons, List.length_nil, Nat.zero_add, Nat.reduceAdd])
variable {S S' S1 S2 : CH} {Q : CV → CH → Prop} {h cb : Nat}
theorem cut_map {f : Int → CV} (ns : List Int) (a b : Option Int) : ∃ ms : List Int, cutL (ns.map f) a b = ms.map f := by
  unfold cutL
  simp only [← List.map_drop, ← List.map_take]
  exact ⟨_, rfl⟩
theorem bag_ok {n : Nat} {ns : List Int} (e : lstOf S[n]? = some (ns.map CV.int)) (hz : ns.length ≤ 63) (k : ∀ h cb S', S <+: S' → S.length ≤ h → BG S' h cb 0 → Q (.ref h) S') : wp (m__law_bag [.ref n]) S Q := by
  refine wp_fn rfl ?_
  show wp (b__law_bag [some (.ref n), none]) S _
  unfold b__law_bag
  walk_at "wp"
  rw [e, optW_some]
  obtain ⟨ms, em⟩ := cut_map (f := CV.int) ns none (some 63)
  have hl : ms.length ≤ 63 := by
    have : (cutL (ns.map CV.int) none (some 63)).length ≤ (ns.map CV.int).length := by
      unfold cutL
      rw [List.length_take, List.length_drop]
      omega
    rw [em, List.length_map, List.length_map] at this
    omega
  rw [em, new_get, lstOf_lst, optW_some]
  have eg : ∀ S', S ++ [.lst (ms.map CV.int)] <+: S' → S'[S.length]? = some (.lst (ms.map CV.int)) := fun S' k => pre_get k new_get
  rw [show CI.len (S ++ [.lst (ms.map CV.int)]) (.lst S.length) = some ms.length by unfold CI.len; dsimp only; rw [new_get, lstOf_lst]; simp, optW_some]
  refine wp_lcPure ms CV.int (fun _ => true) CV.int (small_line (by omega)) (fun S' k1 => ⟨by unfold CI.len; dsimp only; rw [eg S' k1, lstOf_lst]; simp, fun i hi => by unfold CI.get; dsimp only; rw [eg S' k1, lstOf_lst]; simp [hi]⟩) (fun x _ S' _ => ?_) fun S' k1 k2 => ?_
  · show wp (gN 1 (.int x) [some (.ref n), none]) S' _
    unfold cYes
    walk_at "wp"
    exact ⟨by trivial, List.prefix_refl _, fun _ => ⟨by trivial, List.prefix_refl _⟩⟩
  · refine ⟨by decide, ?_⟩
    have l1 := k1.length_le
    have l2 := (List.getElem?_eq_some_iff.mp k2).1
    rw [List.length_append] at l1 l2 
    have k3 := (List.getElem?_append_left (l₂ := [CO.lst [.ref (S ++ [CO.lst (ms.map CV.int)]).length, .int 0, .int 0, .int 0]]) (List.getElem?_eq_some_iff.mp k2).1).trans k2
    refine k _ (S ++ [CO.lst (ms.map CV.int)]).length _ (((List.prefix_append _ _).trans k1).trans (List.prefix_append _ _)) (by omega) ⟨ms, 0, 0, 0, ⟨new_get, ?_, ?_, by decide, by decide, by decide⟩, by decide⟩
    · rw [k3, lstOf_lst, List.filter_eq_self.mpr fun _ _ => rfl]
    · have := (List.getElem?_eq_some_iff.mp k2).1
      omega
theorem datK_vers {v : CV} {vs : List Vn} (h : SeqV S v (vs.map ver)) : datK S v = some (.tuple (vs.map verD)) ∨ datK S v = some (.list (vs.map verD)) := by
  have l1 : PyData.canLayAll0 (vs.map verD) = true := by
    have := lay_opts (vs.map some)
    rw [List.map_map] at this
    exact this
  have l2 : PyData.depthAll (vs.map verD) ≤ 1 := by
    have := dep_opts (vs.map some)
    rw [List.map_map] at this
    exact this
  rcases h with rfl | ⟨n, rfl, e⟩
  · refine .inl (datK_of ?_ (shaped_of ?_ ?_))
    · unfold dat
      dsimp only
      rw [mapO_map (h := verD) fun x _ => dat_ver x]
    · simp only [PyData.canLay0]
      exact l1
    · simp only [PyData.depth]
      omega
  · refine .inr (datK_of ?_ (shaped_of ?_ ?_))
    · unfold dat
      dsimp only
      rw [e]
      dsimp only
      rw [mapO_map (h := verD) fun x _ => dat_ver x]
    · simp only [PyData.canLay0]
      exact l1
    · simp only [PyData.depth]
      omega
theorem eqv_vers : ∀ vs : List Vn, PyData.eqvAll (vs.map verD) (vs.map verD) = true
  | [] => by simp [PyData.eqvAll]
  | v :: r => by simp [PyData.eqvAll, eqv_ver, eqv_vers r]
theorem wp_eqVs {neg : Bool} {a b : Nat} {vs : List Vn} (h1 : S[a]? = some (.lst (vs.map ver))) (h2 : S[b]? = some (.lst (vs.map ver))) : wp (vEq neg (.ref a) (.ref b)) S Q = Q (.bl (neg != true)) S := by
  have e1 : ∀ n, S[n]? = some (.lst (vs.map ver)) → datK S (.ref n) = some (.list (vs.map verD)) := fun n e => by
    rcases datK_vers (.lst e) with q | q
    · exfalso
      unfold datK dat at q
      dsimp only at q
      rw [e, lstOf_lst] at q
      dsimp only at q
      rw [mapO_map (h := verD) fun x _ => dat_ver x] at q
      dsimp only at q
      split at q <;> cases q
    · exact q
  rw [wp_vEq, e1 a h1, e1 b h2, optW_some, optW_some, show PyData.eqv (.list (vs.map verD)) (.list (vs.map verD)) = true by simp [PyData.eqv, eqv_vers]]
end Lk73
end
section
set_option linter.all false
namespace Lk73
open G
def keptP (vs : List Vn) (ts : List Int) : List Vn := vs.filter fun v => decide (v.1 ∈ ts)
def okS (vs : List Vn) (ts : List Int) (s : Int) : Bool := match seenP (keptP vs ts) s with
  | none => match seenP vs s with
    | none => true
    | some w => w.2.isNone
  | some p => decide (seenP vs s = some p)
def lotB (cs ts : List Int) : Bool := decide (ts.Pairwise (· < ·)) && ts.all fun t => decide (t ∈ cs)
def enB (vs : List Vn) (asked ts : List Int) : Bool := lotB (vs.map (·.1)) ts && asked.all (okS vs ts)
theorem seenP_some {vs : List Vn} {s : Int} {v : Vn} (h : seenP vs s = some v) : v ∈ vs ∧ v.1 ≤ s := ⟨List.mem_of_find?_eq_some h, by simpa using List.find?_some h⟩
theorem seenP_none {vs : List Vn} {s : Int} (h : seenP vs s = none) : ∀ v ∈ vs, ¬ v.1 ≤ s := fun v hv => by
  have := List.find?_eq_none.mp h v hv
  simpa using this
theorem seen_max {vs : List Vn} (hd : Desc vs) {s : Int} {v p : Vn} (h : seenP vs s = some v) (hp : p ∈ vs) (hs : p.1 ≤ s) : p = v ∨ p.1 < v.1 := by
  unfold seenP at h
  induction vs with
  | nil => cases hp
  | cons w r ih =>
    rw [List.find?_cons] at h
    by_cases q : w.1 ≤ s
    · rw [decide_eq_true q] at h
      cases h
      rcases List.mem_cons.mp hp with rfl | hp
      · exact .inl rfl
      · exact .inr ((List.pairwise_cons.mp hd).1 p hp)
    · rw [decide_eq_false q] at h
      rcases List.mem_cons.mp hp with rfl | hp
      · exact absurd hs q
      · exact ih (List.pairwise_cons.mp hd).2 h hp
theorem seen_over {vs : List Vn} {last s : Int} (h : ∀ v ∈ vs, v.1 ≤ last) (hs : last ≤ s) : seenP vs s = seenP vs last := by
  unfold seenP
  cases vs with
  | nil => rfl
  | cons w r =>
    have := h w (by simp)
    rw [List.find?_cons_of_pos (by simp; omega), List.find?_cons_of_pos (by simp; omega)]
theorem okS_over {vs : List Vn} {ts : List Int} {last s : Int} (h : ∀ v ∈ vs, v.1 ≤ last) (hs : last ≤ s) : okS vs ts s = okS vs ts last := by
  unfold okS
  rw [seen_over h hs, seen_over (vs := keptP vs ts) (fun v hv => h v (List.mem_filter.mp hv).1) hs]
theorem enB_asked {vs : List Vn} {op ts : List Int} {last l2 : Int} (h : ∀ v ∈ vs, v.1 ≤ last) (ho : ∀ s ∈ op, s ≤ last) (hl : last < l2) : enB vs (askedP op last) ts = enB vs (op ++ [last, l2]) ts := by
  unfold enB askedP
  congr 1
  rw [List.all_append, List.all_append]
  simp only [List.all_cons, List.all_nil, Bool.and_true]
  rw [okS_over h (Int.le_of_lt hl), Bool.and_self]
  cases q : okS vs ts last with
  | false => rw [Bool.and_false, Bool.and_false]
  | true =>
    rw [Bool.and_true, Bool.and_true, Bool.eq_iff_iff]
    simp only [List.all_eq_true, List.mem_filter, decide_eq_true_eq]
    constructor
    · intro k s hs
      by_cases z : s < last
      · exact k s ⟨hs, z⟩
      · rw [okS_over h (by omega)]
        exact q
    · intro k s hs
      exact k s hs.1
theorem fold_ne {c : Vn → Bool} : ∀ {L : List Vn} {acc : List Int} {v : Vn}, acc ≠ [] → v ∈ L → c v = true → v.1 ∈ L.foldl (stepN c) acc
  | w :: L, acc, v, ha, hv, hc => by
    rw [List.foldl_cons]
    rcases List.mem_cons.mp hv with rfl | hv
    · refine fold_sub ?_
      unfold stepN
      rw [if_pos (by rw [hc]; cases acc with | nil => exact absurd rfl ha | cons _ _ => simp)]
      simp
    · refine fold_ne ?_ hv hc
      unfold stepN
      split
      · simp
      · exact ha
theorem fold_some {c : Vn → Bool} : ∀ {L : List Vn} {acc : List Int} {v : Vn}, v ∈ L → c v = true → v.2.isSome = true → v.1 ∈ L.foldl (stepN c) acc
  | w :: L, acc, v, hv, hc, hs => by
    rw [List.foldl_cons]
    rcases List.mem_cons.mp hv with rfl | hv
    · refine fold_sub ?_
      unfold stepN
      rw [if_pos (by rw [hc, hs]; rfl)]
      simp
    · exact fold_some hv hc hs
theorem fold_after {c : Vn → Bool} : ∀ {L : List Vn} {acc : List Int} {u v : Vn}, L.Pairwise (fun a b => a.1 < b.1) → u ∈ L → v ∈ L → u.1 < v.1 → c v = true → u.1 ∈ L.foldl (stepN c) acc → v.1 ∈ L.foldl (stepN c) acc
  | w :: L, acc, u, v, hp, hu, hv, hlt, hc, hm => by
    rw [List.foldl_cons] at hm ⊢
    obtain ⟨p1, p2⟩ := List.pairwise_cons.mp hp
    rcases List.mem_cons.mp hv with rfl | hv'
    · rcases List.mem_cons.mp hu with rfl | hu
      · omega
      · have := p1 u hu
        omega
    · rcases List.mem_cons.mp hu with rfl | hu
      · clear hv
        refine fold_ne ?_ hv' hc
        intro z
        rw [z] at hm
        rcases fold_mem hm with q | ⟨x, hx, e⟩
        · cases q
        · have := p1 x hx
          omega
      · exact fold_after p2 hu hv' hlt hc hm
theorem fold_sound {c : Vn → Bool} : ∀ {L : List Vn} {acc : List Int} {x : Int}, L.Pairwise (fun a b => a.1 < b.1) → x ∈ L.foldl (stepN c) acc →
    x ∈ acc ∨ ∃ v ∈ L, v.1 = x ∧ c v = true ∧ (v.2.isSome = true ∨ acc ≠ [] ∨ ∃ u ∈ L, u.1 < v.1 ∧ c u = true ∧ u.2.isSome = true)
  | [], acc, x, _, hm => .inl hm
  | w :: L, acc, x, hp, hm => by
    obtain ⟨p1, p2⟩ := List.pairwise_cons.mp hp
    rw [List.foldl_cons] at hm
    have key : ∀ y, y ∈ stepN c acc w → y ∈ acc ∨ (y = w.1 ∧ c w = true ∧ (w.2.isSome = true ∨ acc ≠ [])) := fun y hy => by
      unfold stepN at hy
      split at hy
      · rename_i q
        obtain ⟨q1, q2⟩ := Bool.and_eq_true_iff.mp q
        rcases List.mem_append.mp hy with hy | hy
        · exact .inl hy
        · refine .inr ⟨List.mem_singleton.mp hy, q1, ?_⟩
          rcases Bool.or_eq_true_iff.mp q2 with q2 | q2
          · exact .inl q2
          · right
            rintro rfl
            cases q2
      · exact .inl hy
    rcases fold_sound p2 hm with q | ⟨v, hv, e, hc, q⟩
    · rcases key x q with q | ⟨q1, q2, q3⟩
      · exact .inl q
      · exact .inr ⟨w, by simp, q1.symm, q2, q3.imp_right .inl⟩
    · refine .inr ⟨v, by simp [hv], e, hc, ?_⟩
      rcases q with q | q | ⟨u, hu, q⟩
      · exact .inl q
      · by_cases z : acc = []
        · refine .inr (.inr ⟨w, by simp, p1 v hv, ?_⟩)
          obtain ⟨y, hy⟩ : ∃ y, y ∈ stepN c acc w := List.exists_mem_of_ne_nil _ q
          rcases key y hy with k | ⟨k1, k2, k3⟩
          · rw [z] at k
            cases k
          · rcases k3 with k3 | k3
            · exact ⟨k2, k3⟩
            · exact absurd z k3
        · exact .inr (.inl z)
      · exact .inr (.inr ⟨u, by simp [hu], q⟩)
theorem fold_asc {c : Vn → Bool} : ∀ {L : List Vn} {acc : List Int}, L.Pairwise (fun a b => a.1 < b.1) → acc.Pairwise (· < ·) → (∀ a ∈ acc, ∀ w ∈ L, a < w.1) → (L.foldl (stepN c) acc).Pairwise (· < ·)
  | [], acc, _, ha, _ => ha
  | w :: L, acc, hp, ha, hb => by
    obtain ⟨p1, p2⟩ := List.pairwise_cons.mp hp
    rw [List.foldl_cons]
    refine fold_asc p2 ?_ ?_
    · unfold stepN
      split
      · rw [List.pairwise_append]
        exact ⟨ha, List.pairwise_singleton _ _, fun a h b hb' => by rw [List.mem_singleton.mp hb']; exact hb a h w (by simp)⟩
      · exact ha
    · intro a h x hx
      unfold stepN at h
      split at h
      · rcases List.mem_append.mp h with h | h
        · exact hb a h x (by simp [hx])
        · rw [List.mem_singleton.mp h]
          exact p1 x hx
      · exact hb a h x (by simp [hx])
theorem rev_asc {vs : List Vn} (hd : Desc vs) : vs.reverse.Pairwise (fun a b => a.1 < b.1) := List.pairwise_reverse.mpr hd
section
variable {vs : List Vn} {op : List Int} {last : Int} (hd : Desc vs) (hl : ∀ v ∈ vs, v.1 ≤ last) (ho : ∀ s ∈ op, s ≤ last)
include hd hl ho
theorem isS_of {s : Int} {v : Vn} (hs : s ∈ askedP op last) (h : seenP vs s = some v) : isS vs op v = true := by
  rw [← asked_seen hd hl ho, List.any_map, List.any_eq_true]
  exact ⟨s, hs, decide_eq_true h⟩
theorem of_isS {v : Vn} (h : isS vs op v = true) : ∃ s ∈ askedP op last, seenP vs s = some v := by
  rw [← asked_seen hd hl ho, List.any_map, List.any_eq_true] at h
  obtain ⟨s, hs, e⟩ := h
  exact ⟨s, hs, of_decide_eq_true e⟩
theorem told_enough : enB vs (askedP op last) (NP vs op) = true := by
  unfold enB lotB
  rw [Bool.and_eq_true, Bool.and_eq_true]
  refine ⟨⟨decide_eq_true (fold_asc (rev_asc hd) .nil nofun), ?_⟩, ?_⟩
  · rw [List.all_eq_true]
    intro x hx
    refine decide_eq_true ?_
    rcases fold_mem hx with q | ⟨w, hw, e⟩
    · cases q
    · exact List.mem_map.mpr ⟨w, List.mem_reverse.mp hw, e⟩
  · rw [List.all_eq_true]
    intro s hs
    unfold okS
    cases e : seenP vs s with
    | none =>
      cases e2 : seenP (keptP vs (NP vs op)) s with
      | none => rfl
      | some p =>
        obtain ⟨h1, h2⟩ := seenP_some e2
        exact absurd h2 (seenP_none e p (List.mem_filter.mp h1).1)
    | some v =>
      have hv := isS_of hd hl ho hs e
      obtain ⟨v1, v2⟩ := seenP_some e
      by_cases q : v.1 ∈ NP vs op
      · have := find_filter (p := fun v => decide (v.1 ∈ NP vs op)) e (decide_eq_true q)
        rw [show seenP (keptP vs (NP vs op)) s = some v from this]
        exact decide_eq_true rfl
      · have vn : v.2.isNone = true := by
          cases z : v.2 with
          | none => rfl
          | some w =>
            exact absurd (fold_some (List.mem_reverse.mpr v1) hv (by rw [z]; rfl)) q
        cases e2 : seenP (keptP vs (NP vs op)) s with
        | none => exact vn
        | some p =>
          exfalso
          obtain ⟨h1, h2⟩ := seenP_some e2
          obtain ⟨h3, h4⟩ := List.mem_filter.mp h1
          have h4 := of_decide_eq_true h4
          rcases seen_max hd e h3 h2 with rfl | z
          · exact q h4
          · exact q (fold_after (rev_asc hd) (List.mem_reverse.mpr h3) (List.mem_reverse.mpr v1) z hv h4)
theorem enough_has {ts : List Int} (h : enB vs (askedP op last) ts = true) : ∀ x ∈ NP vs op, x ∈ ts := by
  intro x hx
  obtain ⟨_, h2⟩ := Bool.and_eq_true_iff.mp h
  rw [List.all_eq_true] at h2
  rcases fold_sound (rev_asc hd) hx with q | ⟨v, hv, rfl, hc, q⟩
  · cases q
  have hv := List.mem_reverse.mp hv
  obtain ⟨s, hs, es⟩ := of_isS hd hl ho hc
  have k := h2 s hs
  unfold okS at k
  cases e2 : seenP (keptP vs ts) s with
  | some p =>
    rw [e2] at k
    have e3 := of_decide_eq_true k
    rw [es] at e3
    cases e3
    exact of_decide_eq_true (List.mem_filter.mp (seenP_some e2).1).2
  | none =>
    exfalso
    rw [e2, es] at k
    rcases q with q | q | ⟨u, hu, u1, u2, u3⟩
    · have k : v.2.isNone = true := k
      cases z : v.2 with
      | none => rw [z] at q; cases q
      | some w => rw [z] at k; cases k
    · exact q rfl
    · obtain ⟨s', hs', es'⟩ := of_isS hd hl ho u2
      have k' := h2 s' hs'
      unfold okS at k'
      cases e3 : seenP (keptP vs ts) s' with
      | none =>
        rw [e3, es'] at k'
        have k' : u.2.isNone = true := k'
        cases z : u.2 with
        | none => rw [z] at u3; cases u3
        | some w => rw [z] at k'; cases k'
      | some p =>
        rw [e3] at k'
        have e4 := of_decide_eq_true k'
        rw [es'] at e4
        cases e4
        have := seenP_none e2 u (seenP_some e3).1
        have := (seenP_some es).2
        omega
end
/-- which are told once -/
def dd (acc : List Int) (L : List Int) : List Int := L.foldl (fun acc x => if x ∈ acc then acc else acc ++ [x]) acc
theorem dd_le : ∀ (L acc : List Int), (dd acc L).length ≤ acc.length + L.length
  | [], acc => Nat.le_refl _
  | x :: L, acc => by
    show (dd (if x ∈ acc then acc else acc ++ [x]) L).length ≤ _
    have := dd_le L (if x ∈ acc then acc else acc ++ [x])
    split at this <;> simp_all <;> omega
theorem dd_eq : ∀ (L acc : List Int), (dd acc L).length = acc.length + L.length ↔ (L.Nodup ∧ ∀ x ∈ L, x ∉ acc)
  | [], acc => by simp [dd]
  | x :: L, acc => by
    show (dd (if x ∈ acc then acc else acc ++ [x]) L).length = _ ↔ _
    by_cases q : x ∈ acc
    · rw [if_pos q]
      have := dd_le L acc
      constructor
      · intro h
        simp at h
        omega
      · intro h
        exact absurd q (h.2 x (by simp))
    · rw [if_neg q]
      have := dd_eq L (acc ++ [x])
      rw [List.length_append, List.length_singleton] at this
      rw [List.length_cons, show acc.length + (L.length + 1) = acc.length + 1 + L.length by omega, this, List.nodup_cons]
      constructor
      · rintro ⟨h1, h2⟩
        refine ⟨⟨fun z => ?_, h1⟩, fun y hy => ?_⟩
        · exact h2 x z (by simp)
        · rcases List.mem_cons.mp hy with rfl | hy
          · exact q
          · exact fun z => h2 y hy (by simp [z])
      · rintro ⟨⟨h1, h2⟩, h3⟩
        refine ⟨h2, fun y hy z => ?_⟩
        rcases List.mem_append.mp z with z | z
        · exact h3 y (by simp [hy]) z
        · rw [List.mem_singleton.mp z] at hy
          exact h1 hy
theorem asc_iff {ts : List Int} : (ts = sortI ts ∧ ¬ (dd [] ts).length < ts.length) ↔ ts.Pairwise (· < ·) := by
  have h1 := dd_le ts []
  have h2 := dd_eq ts []
  rw [List.length_nil, Nat.zero_add] at h1 h2
  constructor
  · rintro ⟨a, b⟩
    have hn := (h2.mp (by omega)).1
    have hp := sortI_pair ts
    rw [← a] at hp
    exact (hp.and hn).imp fun {x y} ⟨p, q⟩ => by omega
  · intro h
    refine ⟨PySem.W.ksm_same (sortI_perm ts).symm (h.imp fun {x y} q => by omega) (sortI_pair ts), ?_⟩
    rw [h2.mpr ⟨h.imp fun {x y} q => by omega, nofun⟩]
    omega
end Lk73
end
section
set_option Elab.async false
set_option linter.all false
set_option maxRecDepth 100000
set_option maxHeartbeats 4000000
namespace Lk73
open PySem L2 G
local macro_rules | `(tactic| walk_at "wp") => `(tactic| simp only [wp_sSeq, wp_sAsg, wp_sNil, wp_sExpr, wp_sRet, wp_sRetN, fnQ_ret, fnQ_nx, wp_sIf, wp_gN, wp_gSet, wp_eB, wp_eC, wp_eV, wp_add, wp_sub, wp_mul, wp_div, wp_mod, wp_pow, wp_cmp, wp_cV, vBk_bl, wp_cNot, wp_cAnd, wp_cOr, wp_eAnd, wp_eOr, wp_eNot, wp_eIf, wp_aNil, wp_aCons, wp_eTup, wp_eLst, wp_eCl, wp_int, wp_abs, wp_min, wp_max, wp_eNeg, wp_eIsN, wp_ret, wp_okf, wp_ixR, wp_ixT, optW_some, wo_vSet, wo_isLst, wo_vApp, wo_itR, wo_enR, mlst_lst, lstOf_lst, lstOf_rol, wp_eIsi, wp_eIsi2, wp_sFor, wp_iSeq, wp_iCl, wp_eApp, wp_eRev, wp_eLc, wp_gT, wp_gsCons, wp_gsNil, wp_eqI, wp_sPar, wp_isB, wp_eDc, vBk_bl, wp_sStk, wp_lenT, wp_eChain, wp_tupleT, wp_tupleR, wp_listT, wp_listR, wp_addT, wp_R1,
  Bool.false_bne, Bool.true_bne, Bool.not_eq_true', decide_eq_false_iff_not, Bool.not_true, Bool.not_false, Bool.false_eq_true, Bool.true_eq_false, if_false, if_true, List.getElem?_cons_succ, List.getElem?_cons_zero, List.set_cons_succ, List.set_cons_zero, decide_eq_true_eq, List.length_cons, List.length_nil, Nat.zero_add, Nat.reduceAdd])
variable {S S' S1 S2 : CH} {Q : CV → CH → Prop} {h cb : Nat}
def isI : CV → Bool
  | .int _ => true
  | _ => false
/-- what may stand in a thing -/
def El (S : CH) (x : CV) : Prop := ∃ t a b, tyn S x = some t ∧ kitB t "int" = some a ∧ kitB t "bool" = some b ∧ (a && !b) = isI x
def Thing (S : CH) (v : CV) : Prop := (∃ xs : List CV, v = .tup xs ∧ xs.length ≤ 100 ∧ ∀ x ∈ xs, El S x) ∨ ((∀ xs, v ≠ .tup xs) ∧ ∃ t, tyn S v = some t ∧ kitB t "tuple" = some false)
/-- what is to be told of a thing -/
def thB (vs : List Vn) (asked : List Int) : CV → Bool
  | .tup xs => match mapO intOf xs with
    | some ts => enB vs asked ts
    | none => false
  | _ => false
theorem tyn_pre {x : CV} {t : String} (e : tyn S x = some t) (k : S <+: S') : tyn S' x = some t := by
  cases x with
  | ref n =>
    unfold tyn at e ⊢
    dsimp only at e ⊢
    cases q : S[n]? with
    | none =>
      rw [q] at e
      cases e
    | some o =>
      rw [pre_get k q]
      rw [q] at e
      exact e
  | _ => exact e
theorem El.pre {x : CV} (e : El S x) (k : S <+: S') : El S' x := by
  obtain ⟨t, a, b, h1, h2⟩ := e
  exact ⟨t, a, b, tyn_pre h1 k, h2⟩
theorem Thing.pre {v : CV} (e : Thing S v) (k : S <+: S') : Thing S' v := by
  rcases e with ⟨xs, h1, h2, h3⟩ | ⟨h0, t, h1, h2⟩
  · exact .inl ⟨xs, h1, h2, fun x hx => (h3 x hx).pre k⟩
  · exact .inr ⟨h0, t, tyn_pre h1 k, h2⟩
theorem is_int_gen {x : CV} (e : El S x) : wp (m_is_integer [x]) S Q = Q (.bl (isI x)) S := by
  obtain ⟨t, a, b, h1, h2, h3, h4⟩ := e
  refine wp_eq ?_
  have hh : wp (m_is_integer [x]) S fun v S' => v = .bl (isI x) ∧ S' = S := by
    refine wp_fn rfl ?_
    show wp (b_is_integer [some x]) S _
    unfold b_is_integer
    walk_at "wp"
    rw [h1, optW_some, h2, optW_some]
    rw [← h4]
    cases a with
    | false =>
      rw [if_neg (by decide)]
      exact ⟨rfl, trivial⟩
    | true =>
      rw [if_pos rfl, optW_some, h3, optW_some]
      exact ⟨rfl, trivial⟩
  obtain ⟨v, S', e, rfl, rfl⟩ := hh
  exact e
theorem mapO_cons {α β : Type} {f : α → Option β} {x : α} {xs : List α} : mapO f (x :: xs) = match f x, mapO f xs with
    | some d, some ds => some (d :: ds)
    | _, _ => none := rfl
theorem all_isI : ∀ {xs : List CV}, (xs.map isI).all id = (mapO intOf xs).isSome
  | [] => rfl
  | x :: xs => by
    rw [List.map_cons, List.all_cons, all_isI (xs := xs), mapO_cons]
    cases x <;> first | rfl | (cases mapO intOf xs <;> rfl)
theorem seen_le {vs : List Vn} {s : Int} : seenP vs s = seenP vs s := rfl
theorem eqv_oo (a b : Option Vn) : PyData.eqv (optD a) (optD b) = decide (a = b) := by
  cases b with
  | some b => exact eqv_opt a b
  | none =>
    cases a with
    | none => simp [optD, PyData.eqv]
    | some a => simp [optD, verD, PyData.eqv]
theorem datK_opt (a : Option Vn) : datK S (optV a) = some (optD a) := datK_of (dat_opt a) (shaped_of (lay_opt a) (Nat.le_trans (dep_opt a) (by decide)))
theorem wp_eqO {neg : Bool} (a b : Option Vn) : wp (vEq neg (optV a) (optV b)) S Q = Q (.bl (neg != decide (a = b))) S := by
  rw [wp_vEq, datK_opt, datK_opt, optW_some, optW_some, eqv_oo]
theorem isNon_opt (a : Option Vn) : (optV a).isNon = a.isNone := by cases a <;> rfl
theorem ci_tup {xs : List CV} (S : CH) : CI.len S (.tup xs) = some xs.length := rfl
theorem eqv_ints : ∀ a b : List Int, PyData.eqvAll (a.map PyData.int) (b.map PyData.int) = decide (a = b)
  | [], [] => by simp [PyData.eqvAll]
  | [], _ :: _ => by simp [PyData.eqvAll]
  | _ :: _, [] => by simp [PyData.eqvAll]
  | x :: a, y :: b => by
    have e : PyData.eqvAll ((x :: a).map PyData.int) ((y :: b).map PyData.int) = (PyData.eqv (.int x) (.int y) && PyData.eqvAll (a.map PyData.int) (b.map PyData.int)) := by simp only [List.map_cons, PyData.eqvAll]
    rw [e, eqv_ints a b, eqv_int]
    by_cases h1 : x = y <;> by_cases h2 : a = b <;> simp [h1, h2]
theorem wp_eqLI {neg : Bool} {n m : Nat} {a b : List Int} (h1 : S[n]? = some (.lst (a.map CV.int))) (h2 : S[m]? = some (.lst (b.map CV.int))) : wp (vEq neg (.ref n) (.ref m)) S Q = Q (.bl (neg != decide (a = b))) S := by
  have e1 : ∀ (n : Nat) (a : List Int), S[n]? = some (.lst (a.map CV.int)) → datK S (.ref n) = some (.list (a.map .int)) := fun n a e => by
    rcases datK_ints (.lst e) with q | q
    · exfalso
      unfold datK dat at q
      dsimp only at q
      rw [e, lstOf_lst] at q
      dsimp only at q
      rw [mapO_map (h := PyData.int) fun x _ => dat_int] at q
      dsimp only at q
      split at q <;> cases q
    · exact q
  rw [wp_vEq, e1 n a h1, e1 m b h2, optW_some, optW_some, show PyData.eqv (.list (a.map .int)) (.list (b.map .int)) = PyData.eqvAll (a.map .int) (b.map .int) by simp [PyData.eqv], eqv_ints]
def kd (L : List Int) : List (Key × CV) := L.map fun x => (.inl x, .bl true)
theorem put_kd (L : List Int) (x : Int) : putC (kd L) (.inl x) (.bl true) = kd (if x ∈ L then L else L ++ [x]) := by
  unfold putC kd
  have e : ((L.map fun x => ((.inl x : Key), CV.bl true)).any fun kv => decide (kv.1 = .inl x)) = decide (x ∈ L) := by
    rw [List.any_map, Bool.eq_iff_iff, List.any_eq_true, decide_eq_true_eq]
    simp only [Function.comp, decide_eq_true_eq]
    constructor
    · rintro ⟨y, hy, e⟩
      cases e
      exact hy
    · exact fun hy => ⟨x, hy, rfl⟩
  rw [e]
  by_cases q : x ∈ L
  · rw [if_pos (decide_eq_true q), if_pos q, List.map_map]
    congr 1
    funext y
    simp only [Function.comp]
    split
    · rfl
    · rfl
  · rw [if_neg (by rw [decide_eq_false q]; decide), if_neg q, List.map_append]
    rfl
end Lk73
end
section
set_option Elab.async false
set_option linter.all false
set_option maxRecDepth 100000
set_option maxHeartbeats 4000000
namespace Lk73
open PySem L2 G
local macro_rules | `(tactic| walk_at "wp") => `(tactic| simp only [wp_sSeq, wp_sAsg, wp_sNil, wp_sExpr, wp_sRet, wp_sRetN, fnQ_ret, fnQ_nx, wp_sIf, wp_gN, wp_gSet, wp_eB, wp_eC, wp_eV, wp_add, wp_sub, wp_mul, wp_div, wp_mod, wp_pow, wp_cmp, wp_cV, vBk_bl, wp_cNot, wp_cAnd, wp_cOr, wp_eAnd, wp_eOr, wp_eNot, wp_eIf, wp_aNil, wp_aCons, wp_eTup, wp_eLst, wp_eCl, wp_int, wp_abs, wp_min, wp_max, wp_eNeg, wp_eIsN, wp_ret, wp_okf, wp_ixR, wp_ixT, optW_some, wo_vSet, wo_isLst, wo_vApp, wo_itR, wo_enR, mlst_lst, lstOf_lst, lstOf_rol, wp_eIsi, wp_eIsi2, wp_sFor, wp_iSeq, wp_iCl, wp_eApp, wp_eRev, wp_gT, wp_gsCons, wp_gsNil, wp_eqI, wp_sPar, wp_isB, wp_sortT, vBk_bl, wp_sStk, wp_lenT, wp_eChain, wp_tupleT, wp_tupleR, wp_listT, wp_listR, wp_addT, wp_R1,
  Bool.false_bne, Bool.true_bne, Bool.not_eq_true', decide_eq_false_iff_not, Bool.not_true, Bool.not_false, Bool.false_eq_true, Bool.true_eq_false, if_false, if_true, List.getElem?_cons_succ, List.getElem?_cons_zero, List.set_cons_succ, List.set_cons_zero, decide_eq_true_eq, List.length_cons, List.length_nil, Nat.zero_add, Nat.reduceAdd])
variable {S S' S1 S2 : CH} {Q : CV → CH → Prop} {h cb : Nat}
theorem seqci {α : Type} {v : CV} {L : List α} {c : α → CV} {ci : CI} (h : SeqV S v (L.map c)) (hci : ∀ S', SeqV S' v (L.map c) → ci.len S' = some (L.map c).length ∧ ∀ i, ci.get S' i = (L.map c)[i]?) :
    ∀ S', S <+: S' → ci.len S' = some L.length ∧ ∀ i (hi : i < L.length), ci.get S' i = some (c L[i]) := fun S' k => by
  obtain ⟨h1, h2⟩ := hci S' (h.keep k)
  rw [List.length_map] at h1
  refine ⟨h1, fun i hi => ?_⟩
  rw [h2, List.getElem?_map, List.getElem?_eq_getElem hi]
  rfl
theorem tupci {α : Type} {L : List α} {c : α → CV} : ∀ S', S <+: S' → (CI.tup (L.map c)).len S' = some L.length ∧ ∀ i (hi : i < L.length), (CI.tup (L.map c)).get S' i = some (c L[i]) := fun S' _ => by
  refine ⟨by rw [← List.length_map (f := c)]; rfl, fun i hi => ?_⟩
  show (L.map c)[i]? = _
  rw [List.getElem?_map, List.getElem?_eq_getElem hi]
  rfl
/-- the versions' commits, as a list of its own -/
theorem commits_ok {v : CV} {vs : List Vn} {env : G.Env} {i j : Nat} (h : SeqV S v (vs.map ver)) (hn : vs.length ≤ 100) (e0 : env[i]? = some (some v)) (hj : ∀ x, ((env.set j none).set j (some x))[j]? = some (some x)) (k : ∀ S', S <+: S' → S'[S.length]? = some (.lst ((vs.map (·.1)).map CV.int)) → Q (.ref S.length) S') :
    wp (eLc (iSeq (eV i)) [j] (gN j) cYes (eB vIx (eV j) (eC (.int 0))) env) S Q := by
  rw [wp_eLc, wp_iSeq, wp_eV, e0, optW_some, optW_some]
  refine h.it fun ci hci => ?_
  have q := seqci h hci
  rw [(q S (List.prefix_refl _)).1, optW_some]
  refine wp_lcPure vs ver (fun _ => true) (fun x => .int x.1) (small_line (by omega)) q (fun x _ S' k1 => ?_) fun S' k1 k2 => ?_
  · show wp (gN j (ver x) (env.set j none)) S' _
    rw [wp_gN]
    unfold cYes
    rw [wp_ret]
    refine ⟨rfl, List.prefix_refl _, fun _ => ?_⟩
    rw [wp_eB, wp_eV, hj, optW_some, optW_some, wp_eC, show ver x = .tup [.int x.1, mk x.2] from rfl, wp_ixT, at2_0, optW_some]
    exact ⟨rfl, List.prefix_refl _⟩
  · refine k S' k1 ?_
    rw [k2, List.filter_eq_self.mpr fun _ _ => rfl, List.map_map]
    rfl
/-- those of the versions that are told in a tuple of ints -/
theorem kept_ok {v : CV} {vs : List Vn} {ts : List Int} {env : G.Env} {i j l : Nat} (h : SeqV S v (vs.map ver)) (hn : vs.length ≤ 100) (e0 : env[i]? = some (some v)) (hj : ∀ x, ((env.set j none).set j (some x))[j]? = some (some x)) (hl : ∀ x, ((env.set j none).set j (some x))[l]? = some (some (.tup (ts.map CV.int))))
    (k : ∀ S', S <+: S' → S'[S.length]? = some (.lst ((keptP vs ts).map ver)) → Q (.ref S.length) S') :
    wp (eLc (iSeq (eV i)) [j] (gN j) (cV (eB (vIn false) (eB vIx (eV j) (eC (.int 0))) (eV l))) (eV j) env) S Q := by
  rw [wp_eLc, wp_iSeq, wp_eV, e0, optW_some, optW_some]
  refine h.it fun ci hci => ?_
  have q := seqci h hci
  rw [(q S (List.prefix_refl _)).1, optW_some]
  refine wp_lcPure vs ver (fun v => decide (v.1 ∈ ts)) ver (small_line (by omega)) q (fun x _ S' k1 => ?_) fun S' k1 k2 => ?_
  · show wp (gN j (ver x) (env.set j none)) S' _
    rw [wp_gN, wp_cV, wp_eB, wp_eB, wp_eV, hj, optW_some, optW_some, wp_eC, show ver x = .tup [.int x.1, mk x.2] from rfl, wp_ixT, at2_0, optW_some, wp_eV, hl, optW_some, optW_some, wp_inI .tup, vBk_bl, Bool.false_bne]
    refine ⟨rfl, List.prefix_refl _, fun _ => ?_⟩
    rw [wp_eV, hj, optW_some, optW_some]
    exact ⟨rfl, List.prefix_refl _⟩
  · exact k S' k1 k2
/-- the dict of a tuple's numbers -/
theorem dict_ok {ts : List Int} {env : G.Env} {i j : Nat} (hn : ts.length ≤ 1000) (e0 : env[i]? = some (some (.tup (ts.map CV.int)))) (hj : ∀ x, ((env.set j none).set j (some x))[j]? = some (some x)) (k : ∀ S', S <+: S' → S'[S.length]? = some (.dct (kd (dd [] ts))) → Q (.ref S.length) S') :
    wp (eDc (iSeq (eV i)) [j] (gN j) cYes (eV j) (eC (.bl true)) env) S Q := by
  rw [wp_eDc, wp_iSeq, wp_eV, e0, optW_some, optW_some, wp_itT]
  have q := tupci (S := S) (L := ts) (c := CV.int)
  rw [(q S (List.prefix_refl _)).1, optW_some]
  refine wp_dcGo (m := ts.length) (I := fun i S' => S <+: S' ∧ S'[S.length]? = some (.dct (kd (dd [] (ts.take i))))) ?_ ?_ _ 0 _ (Nat.zero_add _) ⟨List.prefix_append _ _, new_get⟩
  · rintro i S' hi ⟨k1, k2⟩
    refine ⟨_, (q S' k1).2 i hi, ?_⟩
    show wp (gN j (.int ts[i]) (env.set j none)) S' _
    rw [wp_gN]
    unfold cYes
    rw [wp_ret, if_pos rfl, wp_eV, hj, optW_some, optW_some, wp_eC, wp_vPut (k := .inl ts[i]) rfl k2]
    refine ⟨?_, pre_set k1 (Nat.le_refl _), ?_⟩
    · unfold kd
      rw [List.length_map]
      refine small_line ?_
      have h1 := dd_le (ts.take i) []
      have h2 := List.length_take_le i ts
      simp at h1
      omega
    · rw [set_at' k2, put_kd, List.take_succ_eq_append_getElem hi]
      unfold dd
      rw [List.foldl_append]
      rfl
  · rintro S' ⟨k1, k2⟩
    rw [List.take_of_length_le (Nat.le_refl _)] at k2
    exact ⟨(q S' k1).1, k S' k1 k2⟩
theorem kept_sub {vs : List Vn} {ts : List Int} {s : Int} (h : seenP vs s = none) : seenP (keptP vs ts) s = none := by
  cases e : seenP (keptP vs ts) s with
  | none => rfl
  | some p =>
    obtain ⟨h1, h2⟩ := seenP_some e
    exact absurd h2 (seenP_none h p (List.mem_filter.mp h1).1)
/-- which of a tuple's things are ints -/
theorem ints_ok {xs : List CV} {env : G.Env} {i j : Nat} (hn : xs.length ≤ 100) (he : ∀ x ∈ xs, El S x) (e0 : env[i]? = some (some (.tup xs))) (hj : ∀ x, ((env.set j none).set j (some x))[j]? = some (some x)) (k : ∀ S', S <+: S' → S'[S.length]? = some (.lst ((xs.map isI).map CV.bl)) → Q (.ref S.length) S') :
    wp (eLc (iSeq (eV i)) [j] (gN j) cYes (eCl m_is_integer (aCons (eV j) aNil)) env) S Q := by
  rw [wp_eLc, wp_iSeq, wp_eV, e0, optW_some, optW_some, wp_itT]
  have q := tupci (S := S) (L := xs) (c := id)
  rw [List.map_id] at q
  rw [(q S (List.prefix_refl _)).1, optW_some]
  refine wp_lcPure xs id (fun _ => true) (fun x => .bl (isI x)) (small_line (by omega)) q (fun x hx S' k1 => ?_) fun S' k1 k2 => ?_
  · show wp (gN j x (env.set j none)) S' _
    rw [wp_gN]
    unfold cYes
    rw [wp_ret]
    refine ⟨rfl, List.prefix_refl _, fun _ => ?_⟩
    rw [wp_eCl, wp_aCons, wp_eV, hj, optW_some, optW_some, wp_aNil, is_int_gen ((he x hx).pre k1)]
    exact ⟨rfl, List.prefix_refl _⟩
  · refine k S' k1 ?_
    rw [k2, List.filter_eq_self.mpr fun _ _ => rfl, List.map_map]
    rfl
/-- which of a tuple's numbers are in a list -/
theorem ins_ok {ts cs : List Int} {c : Nat} {env : G.Env} {i j l : Nat} (hn : ts.length ≤ 100) (hc : S[c]? = some (.lst (cs.map CV.int))) (e0 : env[i]? = some (some (.tup (ts.map CV.int)))) (hj : ∀ x, ((env.set j none).set j (some x))[j]? = some (some x)) (hl : ∀ x, ((env.set j none).set j (some x))[l]? = some (some (.ref c)))
    (k : ∀ S', S <+: S' → S'[S.length]? = some (.lst ((ts.map fun t => decide (t ∈ cs)).map CV.bl)) → Q (.ref S.length) S') :
    wp (eLc (iSeq (eV i)) [j] (gN j) cYes (eB (vIn false) (eV j) (eV l)) env) S Q := by
  rw [wp_eLc, wp_iSeq, wp_eV, e0, optW_some, optW_some, wp_itT]
  have q := tupci (S := S) (L := ts) (c := CV.int)
  rw [(q S (List.prefix_refl _)).1, optW_some]
  refine wp_lcPure ts CV.int (fun _ => true) (fun x => .bl (decide (x ∈ cs))) (small_line (by omega)) q (fun x hx S' k1 => ?_) fun S' k1 k2 => ?_
  · show wp (gN j (.int x) (env.set j none)) S' _
    rw [wp_gN]
    unfold cYes
    rw [wp_ret]
    refine ⟨rfl, List.prefix_refl _, fun _ => ?_⟩
    rw [wp_eB, wp_eV, hj, optW_some, optW_some, wp_eV, hl, optW_some, optW_some, wp_inI (.lst (pre_get k1 hc)), Bool.false_bne]
    exact ⟨rfl, List.prefix_refl _⟩
  · refine k S' k1 ?_
    rw [k2, List.filter_eq_self.mpr fun _ _ => rfl, List.map_map]
    rfl
theorem all_map_id {α : Type} {p : α → Bool} {L : List α} : (L.map p).all id = L.all p := by rw [List.all_map]; rfl
theorem is_kept_right_ok {v thing : CV} {vs : List Vn} {op : List Int} {last : Int} (h : SeqV S v (vs.map ver)) (F : Fit vs op last) (hz : op.length ≤ 100) (hn : vs.length ≤ 100) (T : Thing S thing) (k : ∀ S', S <+: S' → Q (.bl (thB vs (askedP op last) thing)) S') :
    wp (m_is_kept_right [v, .tup (op.map CV.int), .int last, thing]) S Q := by
  refine wp_fn rfl ?_
  show wp (b_is_kept_right [some v, some (.tup (op.map CV.int)), some (.int last), some thing, none, none, none, none, none, none, none]) S _
  unfold b_is_kept_right
  rcases T with ⟨xs, rfl, hx, he⟩ | ⟨h0, t, h1, h2⟩
  · walk_at "wp"
    rw [check_asked_ok h F, tyn_tup, optW_some, kt, optW_some, if_neg (by decide)]
    refine ints_ok hx he rfl (fun _ => rfl) fun S1 k1 f1 => ?_
    rw [wp_all (by rw [f1]; rfl), vBk_bl, all_isI]
    cases hm : mapO intOf xs with
    | none =>
      rw [Option.isSome_none, if_pos rfl]
      have := k S1 k1
      unfold thB at this
      dsimp only at this
      rw [hm] at this
      exact this
    | some ts =>
      have ex := mapO_ints hm
      subst ex
      rw [Option.isSome_some, if_neg (by decide)]
      rw [List.length_map] at hx
      have fin : ∀ {S' : CH} {b : Bool}, S <+: S' → enB vs (askedP op last) ts = b → Q (.bl b) S' := fun {S' b} kk e => by
        have := k S' kk
        unfold thB at this
        dsimp only at this
        rw [hm] at this
        rw [← e]
        exact this
      refine commits_ok (h.keep k1) hn rfl (fun _ => rfl) fun S2 k2 f2 => ?_
      have kk2 := k1.trans k2
      rw [wp_sortT, wp_eqLI (a := ts) (b := sortI ts) (pre_get (List.prefix_append _ _) new_get) new_get, vBk_bl, Bool.true_bne]
      have kS : S2 <+: S2 ++ [CO.lst (ts.map CV.int)] ++ [CO.lst ((sortI ts).map CV.int)] := (List.prefix_append _ _).trans (List.prefix_append _ _)
      have lot0 : ¬ ts.Pairwise (· < ·) → enB vs (askedP op last) ts = false := fun q => by
        unfold enB lotB
        rw [decide_eq_false q]
        rfl
      by_cases c1 : ts = sortI ts
      · rw [decide_eq_true c1, if_neg (by decide)]
        refine dict_ok (by omega) rfl (fun _ => rfl) fun S3 k3 f3 => ?_
        have kk3 := kk2.trans (kS.trans k3)
        rw [wp_lenD f3, wp_cmp, vBk_bl, show (kd (dd [] ts)).length = (dd [] ts).length from List.length_map _, List.length_map]
        by_cases c2 : (dd [] ts).length < ts.length
        · rw [if_pos (decide_eq_true (by omega))]
          exact fin kk3 (lot0 fun q => (asc_iff.mpr q).2 c2)
        · rw [if_neg (by rw [decide_eq_false (by omega)]; decide)]
          have asc := asc_iff.mp ⟨c1, c2⟩
          have f2' := pre_get (kS.trans k3) f2
          refine ins_ok hx f2' rfl (fun _ => rfl) (fun _ => rfl) fun S4 k4 f4 => ?_
          have kk4 := kk3.trans k4
          rw [wp_all (by rw [f4]; rfl), vBk_bl, all_map_id]
          cases c3 : ts.all fun t => decide (t ∈ vs.map (·.1)) with
          | false =>
            rw [if_pos rfl]
            refine fin kk4 ?_
            unfold enB lotB
            rw [c3, Bool.and_false]
            rfl
          | true =>
            rw [if_neg (by decide)]
            refine kept_ok (h.keep kk4) hn rfl (fun _ => rfl) (fun _ => rfl) fun S5 k5 f5 => ?_
            have kk5 := kk4.trans k5
            have en : enB vs (askedP op last) ts = (askedP op last).all (okS vs ts) := by
              unfold enB lotB
              rw [c3, decide_eq_true asc]
              rfl
            refine asked_of_ok hz fun S6 k6 => ?_
            have kk6 := kk5.trans k6
            rw [wp_itT]
            have q := tupci (S := S6) (L := askedP op last) (c := CV.int)
            rw [(q S6 (List.prefix_refl _)).1, optW_some]
            refine wp_forGo (I := fun i env S' => S' = S6 ∧ ((askedP op last).take i).all (okS vs ts) = true ∧ ∃ a b c, env = [some v, some (.tup (op.map CV.int)), some (.int last), some (.tup (ts.map CV.int)), some (.ref S1.length), some (.ref S4.length), a, b, c, none, none]) ?_ ?_ _ 0 _ _ (Nat.zero_add _) ⟨rfl, rfl, _, _, _, rfl⟩
            · rintro i env S' hi ⟨rfl, ha, a, b, c, rfl⟩
              refine ⟨_, (q S' (List.prefix_refl _)).2 i hi, ?_⟩
              have f6 := pre_get k6 f5
              walk_at "wp"
              rw [seen_of_ok (h.keep kk6), seen_of_ok (.lst f6)]
              rw [wp_eqO, vBk_bl, Bool.true_bne]
              have et : (askedP op last).take (i + 1) = (askedP op last).take i ++ [(askedP op last)[i]] := List.take_succ_eq_append_getElem hi
              have yes : okS vs ts (askedP op last)[i] = true → ((askedP op last).take (i + 1)).all (okS vs ts) = true := fun z => by
                rw [et, List.all_append, ha]
                simp [z]
              have no : okS vs ts (askedP op last)[i] = false → Q (.bl false) S' := fun z => fin kk6 (by
                rw [en, Bool.eq_false_iff]
                intro w
                rw [List.all_eq_true] at w
                rw [w _ (List.getElem_mem hi)] at z
                cases z)
              unfold okS at yes no
              cases e1 : seenP (keptP vs ts) (askedP op last)[i] with
              | none =>
                rw [e1] at yes no
                cases e2 : seenP vs (askedP op last)[i] with
                | none =>
                  rw [e2] at yes no
                  rw [if_neg (by simp)]
                  exact ⟨by trivial, yes rfl, _, _, _, rfl⟩
                | some w =>
                  rw [e2] at yes no
                  rw [if_pos (by simp), if_pos (by rfl)]
                  rw [show optV (some w) = .tup [.int w.1, mk w.2] from rfl]
                  simp only [wp_ixT, at2_1, optW_some, isNon_mk, vBk_bl, Bool.false_bne]
                  cases c4 : w.2.isNone with
                  | true =>
                    simp only [Bool.true_eq_false, if_false]
                    exact ⟨by trivial, yes c4, _, _, _, rfl⟩
                  | false =>
                    rw [if_pos rfl]
                    exact no c4
              | some p =>
                rw [e1] at yes no
                by_cases c5 : seenP vs (askedP op last)[i] = some p
                · rw [c5, if_neg (by simp)]
                  exact ⟨by trivial, yes (decide_eq_true c5), _, _, _, rfl⟩
                · rw [if_pos (by simpa using fun z => c5 z.symm), if_neg (by simp [isNon_opt])]
                  exact no (decide_eq_false c5)
            · rintro env S' ⟨rfl, ha, a, b, c, rfl⟩
              refine ⟨(q S' (List.prefix_refl _)).1, ?_⟩
              rw [List.take_length] at ha
              exact fin kk6 (en.trans ha)
      · rw [decide_eq_false c1, if_pos (by decide)]
        exact fin (kk2.trans kS) (lot0 fun q => c1 (asc_iff.mpr q).1)
  · walk_at "wp"
    rw [check_asked_ok h F, h1, optW_some, h2, optW_some, if_pos rfl]
    have := k S (List.prefix_refl _)
    unfold thB at this
    split at this
    · rename_i xs
      exact absurd rfl (h0 xs)
    · exact this
end Lk73
end
section
set_option Elab.async false
set_option linter.all false
set_option maxRecDepth 100000
set_option maxHeartbeats 4000000
namespace Lk73
open PySem L2 G
local macro_rules | `(tactic| walk_at "wp") => `(tactic| simp only [wp_sSeq, wp_sAsg, wp_sNil, wp_sExpr, wp_sRet, wp_sRetN, fnQ_ret, fnQ_nx, wp_sIf, wp_gN, wp_gSet, wp_eB, wp_eC, wp_eV, wp_add, wp_sub, wp_mul, wp_div, wp_mod, wp_pow, wp_cmp, wp_cV, vBk_bl, wp_cNot, wp_cAnd, wp_cOr, wp_eAnd, wp_eOr, wp_eNot, wp_eIf, wp_aNil, wp_aCons, wp_eTup, wp_eLst, wp_eCl, wp_int, wp_abs, wp_min, wp_max, wp_eNeg, wp_eIsN, wp_ret, wp_okf, wp_ixR, wp_ixT, optW_some, wo_vSet, wo_isLst, wo_vApp, wo_itR, wo_enR, mlst_lst, lstOf_lst, lstOf_rol, wp_eIsi, wp_eIsi2, wp_sFor, wp_iSeq, wp_iCl, wp_eApp, wp_eRev, wp_eLc, wp_gT, wp_gsCons, wp_gsNil, wp_eqI, wp_sPar, wp_isB, wp_eDc, vBk_bl, wp_sStk, wp_lenT, wp_eChain, wp_tupleT, wp_tupleR, wp_listT, wp_listR, wp_addT, wp_R1,
  Bool.false_bne, Bool.true_bne, Bool.not_eq_true', decide_eq_false_iff_not, Bool.not_true, Bool.not_false, Bool.false_eq_true, Bool.true_eq_false, if_false, if_true, List.getElem?_cons_succ, List.getElem?_cons_zero, List.set_cons_succ, List.set_cons_zero, decide_eq_true_eq, List.length_cons, List.length_nil, Nat.zero_add, Nat.reduceAdd])
variable {S S' S1 S2 : CH} {Q : CV → CH → Prop} {h cb : Nat}
theorem p16' : (10 : Int) ^ Int.toNat 16 = 10000000000000000 := rfl
/-- the turns of the loop that makes the versions -/
def VI (h cb : Nat) (S : CH) (n : Nat) (i : Nat) (env : G.Env) (S' : CH) : Prop := ∃ (vs : List Vn) (m : Nat) (c : Int) (a b : Option CV), env = [some (.ref h), some (.ref m), some (.int c), a, b] ∧ Fr h S S' ∧ S.length ≤ m ∧ S'[m]? = some (.lst (vs.map ver)) ∧ BG S' h cb (n + 4 * i) ∧ vs.length = i ∧ Desc vs ∧ (∀ x ∈ vs, OkV x) ∧ (∀ x ∈ vs, x.1 ≤ c) ∧ 0 ≤ c ∧ c ≤ 10000000000000001 * i
theorem ver_tail {n i m : Nat} {c c' : Int} {w : Option Int} {vs : List Vn} (f3 : Fr h S S1) (lm : S.length ≤ m) (lm2 : m ≠ h) (hn : n < 20000) (hi : i < 40) (e3 : S1[m]? = some (.lst (vs.map ver))) (B5 : BG S1 h cb (n + 4 * i + 4)) (ln : vs.length = i) (hd : Desc vs) (ho : ∀ x ∈ vs, OkV x) (hl : ∀ x ∈ vs, x.1 ≤ c) (c0 : 0 ≤ c) (c1 : c ≤ 10000000000000001 * i) (g0 : c < c') (g1 : c' ≤ c + 10000000000000001)
    (hw : ∀ x, w = some x → -1000000000000000000 ≤ x ∧ x ≤ 1000000000000000000) :
    2 ≤ sizeLine ∧ 1 ≤ sizeLine ∧ wp (vAdd (CV.ref (List.length S1)) (CV.ref m)) (S1 ++ [CO.lst [CV.tup [.int c', mk w]]]) fun v_1 S1 => VI h cb S n (i + 1) [some (CV.ref h), some v_1, some (.int c'), some (CV.int i), some (mk w)] S1 := by
  refine ⟨by decide, by decide, ?_⟩
  rw [wp_addL new_get (pre_get (List.prefix_append _ _) e3) (by simp only [List.length_cons, List.length_nil, List.length_map]; have := small_line (n := 1 + i) (by omega); omega)]
  refine ⟨(c', w) :: vs, _, c', _, _, rfl, f3.tr (.tr .app .app), ?_, ?_, (B5.app.app).up (by omega), by simp [ln], List.Pairwise.cons (fun x hx => by have := hl x hx; show x.1 < c'; omega) hd, ?_, ?_, by omega, by omega⟩
  · have := f3.1
    simp
    omega
  · exact new_get
  · intro x hx
    rcases List.mem_cons.mp hx with rfl | hx
    · exact ⟨⟨by show 1 ≤ c'; omega, by show c' ≤ _; omega⟩, hw⟩
    · exact ho x hx
  · intro x hx
    rcases List.mem_cons.mp hx with rfl | hx
    · exact Int.le_refl _
    · have := hl x hx
      omega
theorem versions_ok {n : Nat} (B : BG S h cb n) (hn : n < 10000) (k : ∀ vs m S', Vs vs → vs.length ≤ 12 → Fr h S S' → S.length ≤ m → S'[m]? = some (.lst (vs.map ver)) → BG S' h cb (n + 200) → Q (.ref m) S') : wp (m__law_versions [.ref h]) S Q := by
  refine wp_fn rfl ?_
  show wp (b__law_versions [some (.ref h), none, none, none, none]) S _
  unfold b__law_versions
  walk_at "wp"
  refine ⟨by decide, by decide, ?_⟩
  have hB := B.lt
  refine draw_bg B.app.app (by omega) (by decide) (by decide) fun d S1 h1 h2 f1 B1 => ?_
  walk_at "wp"
  have F1 : Fr h S S1 := .tr .app (.tr .app f1)
  rw [f1.2 (S ++ [CO.lst []]).length _ (by simp; omega) new_get, lstOf_lst, optW_some]
  obtain ⟨y, e1, y0, y1⟩ : ∃ y, atI [CV.int 5, CV.int 13] d = some (.int y) ∧ 0 < y ∧ y ≤ 13 := by
    have : d = 0 ∨ d = 1 := by omega
    rcases this with rfl | rfl
    · exact ⟨_, at2_0, by decide, by decide⟩
    · exact ⟨_, at2_1, by decide, by decide⟩
  rw [e1, optW_some]
  refine draw_bg B1 (by omega) y0 (by omega) fun many S2 h3 h4 f2 B2 => ?_
  walk_at "wp"
  refine ⟨by omega, ?_⟩
  have F2 : Fr h S S2 := F1.tr f2
  have lS := F2.1
  have e0 : S2[S.length]? = some (.lst (([] : List Vn).map ver)) := by
    have := (Fr.tr .app (f1.tr f2) : Fr h (S ++ [CO.lst []]) S2)
    exact this.2 S.length _ (by omega) new_get
  rw [show CI.len S2 (.rng 0 many.toNat) = some many.toNat from rfl, optW_some]
  refine wp_forGo (I := VI h cb S (n + 2)) ?_ ?_ _ 0 _ _ (Nat.zero_add _) ⟨[], S.length, 0, none, none, rfl, F2, Nat.le_refl _, e0, B2, rfl, .nil, nofun, nofun, by decide, by decide⟩
  · rintro i env S' hi ⟨vs, m, c, a, b, rfl, f3, lm, e3, B3, ln, hd, ho, hl, c0, c1⟩
    refine ⟨.int i, by rw [rng_get hi], ?_⟩
    have hm : m ≠ h := by omega
    walk_at "wp"
    rw [p16']
    refine ⟨by decide, by decide, draw_bg B3.app (by omega) (by decide) (by decide) fun d3 S3 z0 z1 f4 B4 => ?_⟩
    have hh : h < S'.length := B3.lt
    walk_at "wp"
    rw [f4.2 S'.length _ (by omega) new_get, lstOf_lst, optW_some]
    obtain ⟨x, q1, q2⟩ := at3' (a := .int 1) (b := .int 3) (c := .int 10000000000000000) z0 z1
    rw [q1, optW_some]
    obtain ⟨y, rfl, y0, y1⟩ : ∃ y, x = .int y ∧ 0 < y ∧ y ≤ 10000000000000000 := by
      rcases q2 with rfl | rfl | rfl
      all_goals exact ⟨_, rfl, by decide, by decide⟩
    refine draw_bg B4 (by omega) y0 (by omega) fun g S4 g0 g1 f5 B5 => ?_
    walk_at "wp"
    refine draw_bg B5 (by omega) (by decide) (by decide) fun d4 S5 _ _ f6 B6 => ?_
    walk_at "wp"
    have f7 : Fr h S' S5 := .tr .app (f4.tr (f5.tr f6))
    split
    · refine draw_bg B6 (by omega) (by decide) (by decide) fun d5 S6 w0 w1 f8 B8 => ?_
      walk_at "wp"
      exact ver_tail (w := some (d5 - 2)) (f3.tr (f7.tr f8)) lm hm (by omega) (by omega) ((f7.tr f8).2 m _ hm e3) B8 ln hd ho hl c0 c1 (by omega) (by omega) (fun x e => by cases e; omega)
    · exact ver_tail (w := none) (f3.tr f7) lm hm (by omega) (by omega) (f7.2 m _ hm e3) (B6.up (by omega)) ln hd ho hl c0 c1 (by omega) (by omega) nofun
  · rintro env S' ⟨vs, m, c, a, b, rfl, f3, lm, e3, B3, ln, hd, ho, hl, c0, c1⟩
    refine ⟨rfl, ?_⟩
    exact k vs m S' ⟨by omega, hd, ho, fun x hx => by have := hl x hx; omega⟩ (by omega) f3 lm e3 (B3.up (by omega))
def OI (h cb : Nat) (S : CH) (n m : Nat) (last : Int) (i : Nat) (env : G.Env) (S' : CH) : Prop := ∃ (ns : List Int) (f : Nat) (a b : Option CV), env = [some (.ref h), some (.ref m), some (.int last), some (.ref f), a, b] ∧ Fr h S S' ∧ S.length ≤ f ∧ S'[f]? = some (.lst (ns.map CV.int)) ∧ BG S' h cb (n + 4 * i) ∧ ns.length ≤ i ∧ ns.Nodup ∧ ∀ s ∈ ns, 0 ≤ s ∧ s ≤ last
theorem open_tail {n m i f : Nat} {last s : Int} {ns : List Int} {a b : Option CV} (f3 : Fr h S S1) (hB : h < S.length) (hC : cb < S.length) (hi : i < 20) (lf : S.length ≤ f) (e4 : S1[f]? = some (.lst (ns.map CV.int))) (B4 : BG S1 h cb (n + 4 * (i + 1))) (ln : ns.length ≤ i) (nd : ns.Nodup) (hb : ∀ s ∈ ns, 0 ≤ s ∧ s ≤ last) (s0 : 0 ≤ s) (s1 : s ≤ last) (env : G.Env) (he : env = [some (.ref h), some (.ref m), some (.int last), some (.ref f), a, b]) :
    wp (vIn true (.int s) (.ref f)) S1 (vBk fun k S2 => if k = true then optW (mlst S2[f]?) fun _ => optW (mlst S2[f]?) fun xs => xs.length < sizeLine ∧ OI h cb S n m last (i + 1) env (S2.set f (.lst (xs ++ [.int s]))) else OI h cb S n m last (i + 1) env S2) := by
  rw [wp_inI (ns := ns) (.lst e4), vBk_bl, Bool.true_bne]
  by_cases q : s ∈ ns
  · rw [decide_eq_true q, if_neg (by decide)]
    exact ⟨ns, f, _, _, he, f3, lf, e4, B4, by omega, nd, hb⟩
  · rw [decide_eq_false q, if_pos (by decide), e4]
    refine ⟨?_, ns ++ [s], f, _, _, he, f3.set lf, lf, ?_, B4.set (by omega) (by omega), ?_, ?_, ?_⟩
    · exact small_line (by simp; omega)
    · rw [set_at e4, List.map_append]
      rfl
    · simp
      exact ln
    · rw [List.nodup_append]
      exact ⟨nd, List.pairwise_singleton _ _, fun x hx y hy => by rw [List.mem_singleton.mp hy]; exact fun z => q (z ▸ hx)⟩
    · intro x hx
      rcases List.mem_append.mp hx with hx | hx
      · exact hb x hx
      · rw [List.mem_singleton.mp hx]
        exact ⟨s0, s1⟩
theorem open_ok {n m : Nat} {vs : List Vn} {last : Int} (B : BG S h cb n) (hn : n < 5000) (hm : m ≠ h) (e : S[m]? = some (.lst (vs.map ver))) (V : Vs vs) (l0 : 0 ≤ last) (l1 : last < 9000000000000000000) (k : ∀ op S', Lot op last → op.length ≤ 6 → Fr h S S' → BG S' h cb (n + 30) → Q (.tup (op.map CV.int)) S') : wp (m__law_open [.ref h, .ref m, .int last]) S Q := by
  refine wp_fn rfl ?_
  show wp (b__law_open [some (.ref h), some (.ref m), some (.int last), none, none, none]) S _
  unfold b__law_open
  have hv : ∀ x ∈ vs, 1 ≤ x.1 := fun x hx => (V.ok x hx).1.1
  walk_at "wp"
  have hB := B.lt
  have hC := B.ltc
  have hvn := V.n
  refine ⟨by decide, draw_bg B.app (by omega) (by decide) (by decide) fun many S1 h1 h2 f1 B1 => ?_⟩
  walk_at "wp"
  refine ⟨by omega, ?_⟩
  have F1 : Fr h S S1 := .tr .app f1
  have lS := F1.1
  have e1 : S1[S.length]? = some (.lst (([] : List Int).map CV.int)) := f1.2 _ _ (by omega) new_get
  rw [show CI.len S1 (.rng 0 many.toNat) = some many.toNat from rfl, optW_some]
  refine wp_forGo (I := OI h cb S (n + 1) m last) ?_ ?_ _ 0 _ _ (Nat.zero_add _) ⟨[], S.length, none, none, rfl, F1, Nat.le_refl _, e1, B1, Nat.zero_le _, .nil, nofun⟩
  · rintro i env S' hi ⟨ns, f, a, b, rfl, f3, lf, e3, B3, ln, nd, hb⟩
    refine ⟨.int i, by rw [rng_get hi], ?_⟩
    have hf : f ≠ h := by omega
    walk_at "wp"
    refine draw_bg B3 (by omega) (by omega) (by omega) fun d S2 d0 d1 f4 B4 => ?_
    have eM := (f3.tr f4).2 m _ hm e
    rw [wp_lenR (xs := vs.map ver) (by rw [eM]; rfl), wp_cmp, vBk_bl, List.length_map]
    by_cases c1 : (0 : Int) < vs.length
    · rw [if_pos (decide_eq_true c1)]
      refine draw_bg B4 (by omega) (by decide) (by decide) fun d5 S3 _ _ f5 B5 => ?_
      have eM2 := f5.2 m _ hm eM
      walk_at "wp"
      by_cases c2 : 0 < d5
      · rw [if_pos c2, wp_lenR (xs := vs.map ver) (by rw [eM2]; rfl), List.length_map]
        refine draw_bg B5 (by omega) (by omega) (by omega) fun p S4 p0 p1 f6 B6 => ?_
        have eM3 := f6.2 m _ hm eM2
        obtain ⟨j, hj, rfl, ej⟩ := at_ver p0 p1
        walk_at "wp"
        rw [eM3, lstOf_lst, optW_some, ej, optW_some]
        simp only [wp_ixT, at2_0, optW_some]
        refine draw_bg B6 (by omega) (by omega) (by omega) fun z S5 z0 z1 f7 B7 => ?_
        have := hv vs[j] (List.getElem_mem hj)
        walk_at "wp"
        have f8 : Fr h S' S5 := f4.tr (f5.tr (f6.tr f7))
        refine open_tail (n := n + 1) (f3.tr f8) hB hC (by omega) lf (f8.2 f _ hf e3) (B7.up (by omega)) ln nd hb ?_ ?_ _ rfl
        · split <;> omega
        · split <;> omega
      · rw [if_neg c2]
        exact open_tail (n := n + 1) (f3.tr (f4.tr f5)) hB hC (by omega) lf ((f4.tr f5).2 f _ hf e3) (B5.up (by omega)) ln nd hb d0 (by omega) _ rfl
    · rw [if_neg (by rw [decide_eq_false c1]; decide)]
      exact open_tail (n := n + 1) (f3.tr f4) hB hC (by omega) lf (f4.2 f _ hf e3) (B4.up (by omega)) ln nd hb d0 (by omega) _ rfl
  · rintro env S' ⟨ns, f, a, b, rfl, f3, lf, e3, B3, ln, nd, hb⟩
    refine ⟨rfl, ?_⟩
    walk_at "wp"
    rw [wp_sortR (by rw [e3]; rfl)]
    walk_at "wp"
    rw [new_get, lstOf_lst, optW_some]
    exact k _ _ (lot_sort nd hb) (by rw [(sortI_perm ns).length_eq]; omega) (f3.tr .app) (B3.app.up (by omega))
end Lk73
end
section
set_option Elab.async false
set_option linter.all false
set_option maxRecDepth 100000
set_option maxHeartbeats 4000000
namespace Lk73
open PySem L2 G
local macro_rules | `(tactic| walk_at "wp") => `(tactic| simp only [wp_sSeq, wp_sAsg, wp_sNil, wp_sExpr, wp_sRet, wp_sRetN, fnQ_ret, fnQ_nx, wp_sIf, wp_gN, wp_gSet, wp_eB, wp_eC, wp_eV, wp_add, wp_sub, wp_mul, wp_div, wp_mod, wp_pow, wp_cmp, wp_cV, vBk_bl, wp_cNot, wp_cAnd, wp_cOr, wp_eAnd, wp_eOr, wp_eNot, wp_eIf, wp_aNil, wp_aCons, wp_eTup, wp_eLst, wp_eCl, wp_int, wp_abs, wp_min, wp_max, wp_eNeg, wp_eIsN, wp_ret, wp_okf, wp_ixR, wp_ixT, optW_some, wo_vSet, wo_isLst, wo_vApp, wo_itR, wo_enR, mlst_lst, lstOf_lst, lstOf_rol, wp_eIsi, wp_eIsi2, wp_sFor, wp_iSeq, wp_iCl, wp_eApp, wp_eRev, wp_eLc, wp_gT, wp_gsCons, wp_gsNil, wp_eqI, wp_sPar, wp_isB, wp_eDc, vBk_bl, wp_sStk, wp_lenT, wp_eChain, wp_tupleT, wp_tupleR, wp_listT, wp_listR, wp_addT, wp_R1,
  Bool.false_bne, Bool.true_bne, Bool.not_eq_true', decide_eq_false_iff_not, Bool.not_true, Bool.not_false, Bool.false_eq_true, Bool.true_eq_false, if_false, if_true, List.getElem?_cons_succ, List.getElem?_cons_zero, List.set_cons_succ, List.set_cons_zero, decide_eq_true_eq, List.length_cons, List.length_nil, Nat.zero_add, Nat.reduceAdd])
variable {S S' S1 S2 : CH} {Q : CV → CH → Prop} {h cb : Nat}
theorem law_seen_ok {v : CV} {vs : List Vn} {s : Int} (h : SeqV S v (vs.map ver)) : wp (m__law_seen [v, .int s]) S Q = Q (optV (seenP vs s)) S := by
  refine wp_eq ?_
  have hh : wp (m__law_seen [v, .int s]) S fun r S' => r = optV (seenP vs s) ∧ S' = S := by
    refine wp_fn rfl ?_
    show wp (b__law_seen [some v, some (.int s), none]) S _
    unfold b__law_seen
    walk_at "wp"
    refine h.it fun ci hci => ?_
    rw [(hci S h).1, optW_some]
    refine wp_forGo (I := fun i env S' => S' = S ∧ seenP vs s = seenP (vs.drop i) s ∧ ∃ a, env = [some v, some (.int s), a]) ?_ ?_ _ 0 _ S (Nat.zero_add _) ⟨rfl, rfl, none, rfl⟩
    · rintro i env S' hi ⟨rfl, e, a, rfl⟩
      rw [List.length_map] at hi
      refine ⟨ver vs[i], by rw [(hci S' h).2, List.getElem?_map, List.getElem?_eq_getElem hi]; rfl, ?_⟩
      walk_at "wp"
      have e3 : ver vs[i] = .tup [.int vs[i].1, mk vs[i].2] := rfl
      rw [e3]
      simp only [wp_ixT, at2_0, optW_some, wp_cmp, vBk_bl, decide_eq_true_eq]
      rw [List.drop_eq_getElem_cons hi] at e
      unfold seenP at e
      rw [List.find?_cons] at e
      by_cases q : vs[i].1 ≤ s
      · rw [decide_eq_true q] at e
        rw [if_pos q]
        refine ⟨?_, by trivial⟩
        unfold seenP
        rw [e]
        rfl
      · rw [decide_eq_false q] at e
        rw [if_neg q]
        exact ⟨by trivial, e, _, rfl⟩
    · rintro env S' ⟨rfl, e, a, rfl⟩
      refine ⟨(hci S' h).1, ?_, by trivial⟩
      rw [e, List.drop_of_length_le (by rw [List.length_map]; exact Nat.le_refl _)]
      rfl
  obtain ⟨v, S', e, rfl, rfl⟩ := hh
  exact e
def inP (vs : List Vn) (k : Nat) (hk : k < vs.length) (s : Int) : Bool := decide (vs[k].1 ≤ s ∧ (k = 0 ∨ ∀ h : k - 1 < vs.length, s < vs[k - 1].1))
theorem law_needed_ok {v : CV} {vs : List Vn} {op : List Int} (h : SeqV S v (vs.map ver)) (hd : Desc vs) (hz : op.length ≤ 100) (hz2 : vs.length ≤ 100) (kk : ∀ S', S <+: S' → S'[S.length]? = some (.lst ((NP vs op).map CV.int)) → Q (.ref S.length) S') :
    wp (m__law_needed [v, .tup (op.map CV.int)]) S Q := by
  refine wp_fn rfl ?_
  show wp (b__law_needed [some v, some (.tup (op.map CV.int)), none, none, none, none, none]) S _
  unfold b__law_needed
  walk_at "wp"
  refine ⟨by decide, ?_⟩
  have h1 := h.keep (List.prefix_append S [.lst []])
  rw [h1.len]
  walk_at "wp"
  rw [List.length_map]
  refine ⟨by omega, ?_⟩
  rw [show CI.len (S ++ [.lst []]) (.rng 0 (vs.length : Int).toNat) = some vs.length from rfl, optW_some]
  have lr : vs.reverse.length = vs.length := List.length_reverse
  refine wp_forGo (I := fun i env S' => S <+: S' ∧ S'[S.length]? = some (.lst (((vs.reverse.take i).foldl (stepN (isS vs op)) []).map CV.int)) ∧ ∃ a b c d, env = [some v, some (.tup (op.map CV.int)), some (.ref S.length), a, b, c, d]) ?_ ?_ _ 0 _ _ (Nat.zero_add _) ⟨List.prefix_append _ _, new_get, _, _, _, _, rfl⟩
  · rintro i env S' hi ⟨k1, e1, a, b, c, d, rfl⟩
    refine ⟨.int i, rng_get hi, ?_⟩
    have h2 := h.keep k1
    obtain ⟨k, hk, hki⟩ : ∃ k, k < vs.length ∧ vs.length - 1 - i = k := ⟨_, by omega, rfl⟩
    have hkI : ((vs.length : Int) - 1 - i) = (k : Nat) := by omega
    have er : vs.reverse[i]'(by omega) = vs[k] := by
      rw [List.getElem_reverse]
      congr 1
    have ek : ∀ {Q : CV → CH → Prop}, wp (vIx v (.int (k : Nat))) S' Q = Q (ver vs[k]) S' := fun {Q} => by
      rw [h2.ix, show atI (vs.map ver) (k : Nat) = some (ver vs[k]) from atI_nat (by rw [List.getElem?_map, List.getElem?_eq_getElem hk]; rfl), optW_some]
    have e7 : ver vs[k] = .tup [.int vs[k].1, mk vs[k].2] := rfl
    walk_at "wp"
    simp only [h2.len, List.length_map, wp_sub, hkI, ek, e7, wp_ixT, at2_0, at2_1, optW_some, wp_eqI, Bool.false_bne, wp_itT]
    rw [show CI.len S' (.tup (op.map CV.int)) = some op.length by rw [← List.length_map (f := CV.int)]; rfl, optW_some]
    refine wp_forGo (I := fun j env S2 => S2 = S' ∧ ∃ e, env = [some v, some (.tup (op.map CV.int)), some (.ref S.length), some (.int i), some (.int k), some (.bl (decide ((k : Int) = 0) || (op.take j).any (inP vs k hk))), e]) ?_ ?_ _ 0 _ _ (Nat.zero_add _) ⟨rfl, _, by rw [List.take_zero, List.any_nil, Bool.or_false]⟩
    · rintro j env S2 hj ⟨rfl, e, rfl⟩
      refine ⟨.int op[j], by show (op.map CV.int)[j]? = _; rw [List.getElem?_map, List.getElem?_eq_getElem hj]; rfl, ?_⟩
      have et : op.take (j + 1) = op.take j ++ [op[j]] := List.take_succ_eq_append_getElem hj
      walk_at "wp"
      simp only [et, ek, e7, wp_ixT, at2_0, optW_some, wp_cmp, List.any_append, List.any_cons, List.any_nil, Bool.or_false, wp_eqI, vBk_bl, Bool.false_bne, decide_eq_true_eq]
      have yes : inP vs k hk op[j] = true → ∀ Z : Bool, (Z || (List.any (op.take j) (inP vs k hk) || inP vs k hk op[j])) = true := fun q Z => by rw [q]; simp
      have no : inP vs k hk op[j] = false → ∀ Z : Bool, (Z || (List.any (op.take j) (inP vs k hk) || inP vs k hk op[j])) = (Z || List.any (op.take j) (inP vs k hk)) := fun q Z => by rw [q, Bool.or_false]
      by_cases c1 : vs[k].1 ≤ op[j]
      · rw [if_pos c1]
        by_cases c2 : (k : Int) = 0
        · rw [if_pos c2]
          exact ⟨by trivial, _, by rw [yes (decide_eq_true ⟨c1, .inl (by omega)⟩)]⟩
        · rw [if_neg c2]
          have hk1 : k - 1 < vs.length := by omega
          have ek1 : ∀ {Q : CV → CH → Prop}, wp (vIx v (.int ((k : Int) - 1))) S2 Q = Q (ver vs[k - 1]) S2 := fun {Q} => by
            rw [h2.ix, show ((k : Int) - 1) = (k - 1 : Nat) by omega, show atI (vs.map ver) (k - 1 : Nat) = some (ver vs[k - 1]) from atI_nat (by rw [List.getElem?_map, List.getElem?_eq_getElem hk1]; rfl), optW_some]
          rw [ek1, show ver vs[k - 1] = .tup [.int vs[k - 1].1, mk vs[k - 1].2] from rfl]
          simp only [wp_ixT, at2_0, optW_some, wp_cmp, vBk_bl, decide_eq_true_eq]
          by_cases c3 : op[j] < vs[k - 1].1
          · rw [if_pos c3]
            exact ⟨by trivial, _, by rw [yes (decide_eq_true ⟨c1, .inr fun _ => c3⟩)]⟩
          · rw [if_neg c3]
            exact ⟨by trivial, _, by rw [no (decide_eq_false fun q => by rcases q.2 with q | q; omega; exact c3 (q hk1))]⟩
      · rw [if_neg c1]
        exact ⟨by trivial, _, by rw [no (decide_eq_false fun q => c1 q.1)]⟩
    · rintro env S2 ⟨rfl, e, rfl⟩
      refine ⟨by show some (op.map CV.int).length = _; rw [List.length_map], ?_⟩
      have eS : (decide ((k : Int) = 0) || (op.take op.length).any (inP vs k hk)) = isS vs op vs[k] := by
        rw [isS_at hd op hk, List.take_length]
        rw [show decide ((k : Int) = 0) = decide (k = 0) from decide_eq_decide.mpr (by omega)]
        rfl
      rw [eS]
      have et : vs.reverse.take (i + 1) = vs.reverse.take i ++ [vs.reverse[i]'(by omega)] := List.take_succ_eq_append_getElem (by omega)
      rw [et, List.foldl_append, er]
      have lb := fold_len (c := isS vs op) (vs.reverse.take i) []
      have lt : (vs.reverse.take i).length ≤ 100 := by
        rw [List.length_take]
        omega
      generalize (vs.reverse.take i).foldl (stepN (isS vs op)) [] = acc at e1 lb ⊢
      walk_at "wp"
      simp only [ek, e7, wp_ixT, at2_0, at2_1, optW_some, isNon_mk, vBk_bl, Bool.true_bne, wp_lenR (S := S2) (n := S.length) (xs := acc.map CV.int) (by rw [e1]; rfl), wp_cmp, decide_eq_true_eq, List.length_map, e1, mlst_lst, List.foldl_cons, List.foldl_nil]
      have yes : (acc.map CV.int).length < sizeLine := small_line (by rw [List.length_map]; simp at lb; omega)
      have no : ∀ (hq : (isS vs op vs[k] && (vs[k].2.isSome || !acc.isEmpty)) = false), some (CO.lst (acc.map CV.int)) = some (.lst ((stepN (isS vs op) acc vs[k]).map CV.int)) := fun hq => by
        unfold stepN
        rw [if_neg (by rw [hq]; decide)]
      have on : ∀ (hq : (isS vs op vs[k] && (vs[k].2.isSome || !acc.isEmpty)) = true), (S2.set S.length (.lst (acc.map CV.int ++ [.int vs[k].1])))[S.length]? = some (.lst ((stepN (isS vs op) acc vs[k]).map CV.int)) := fun hq => by
        rw [set_at' e1]
        unfold stepN
        rw [if_pos hq, List.map_append]
        rfl
      rw [List.length_map] at yes
      have pr : S <+: S2.set S.length (.lst (acc.map CV.int ++ [.int vs[k].1])) := pre_set k1 (Nat.le_refl _)
      split
      · rename_i c1
        split
        · rename_i c2
          refine ⟨yes, pr, on ?_, _, _, _, _, rfl⟩
          rw [c1]
          cases q : vs[k].2 with
          | none => rw [q] at c2; cases c2
          | some w => rfl
        · split
          · rename_i c3
            refine ⟨yes, pr, on ?_, _, _, _, _, rfl⟩
            rw [c1]
            cases acc with
            | nil => simp at c3
            | cons _ _ => simp
          · rename_i c2 c3
            refine ⟨k1, no ?_, _, _, _, _, rfl⟩
            cases q : vs[k].2 with
            | some w => rw [q] at c2; exact absurd rfl c2
            | none =>
              cases acc with
              | nil => simp
              | cons _ _ => simp at c3
      · rename_i c1
        refine ⟨k1, no ?_, _, _, _, _, rfl⟩
        rw [Bool.eq_false_iff.mpr c1]
        rfl
  · rintro env S' ⟨k5, e5, a, b, c, d, rfl⟩
    refine ⟨by trivial, ?_⟩
    rw [List.take_of_length_le (by rw [lr]; exact Nat.le_refl _)] at e5
    exact kk S' k5 e5
end Lk73
end
section
set_option Elab.async false
set_option linter.all false
set_option maxRecDepth 100000
set_option maxHeartbeats 4000000
namespace Lk73
open PySem L2 G
local macro_rules | `(tactic| walk_at "wp") => `(tactic| simp only [wp_sSeq, wp_sAsg, wp_sNil, wp_sExpr, wp_sRet, wp_sRetN, fnQ_ret, fnQ_nx, wp_sIf, wp_gN, wp_gSet, wp_eB, wp_eC, wp_eV, wp_add, wp_sub, wp_mul, wp_div, wp_mod, wp_pow, wp_cmp, wp_cV, vBk_bl, wp_cNot, wp_cAnd, wp_cOr, wp_eAnd, wp_eOr, wp_eNot, wp_eIf, wp_aNil, wp_aCons, wp_eTup, wp_eLst, wp_eCl, wp_int, wp_abs, wp_min, wp_max, wp_eNeg, wp_eIsN, wp_ret, wp_okf, wp_ixR, wp_ixT, optW_some, wo_vSet, wo_isLst, wo_vApp, wo_itR, wo_enR, mlst_lst, lstOf_lst, lstOf_rol, wp_eIsi, wp_eIsi2, wp_sFor, wp_iSeq, wp_iCl, wp_eApp, wp_eRev, wp_gT, wp_gsCons, wp_gsNil, wp_eqI, wp_sPar, wp_isB, wp_eDc, vBk_bl, wp_sStk, wp_lenT, wp_eChain, wp_tupleT, wp_tupleR, wp_listT, wp_listR, wp_addT, wp_R1,
  Bool.false_bne, Bool.true_bne, Bool.not_eq_true', decide_eq_false_iff_not, Bool.not_true, Bool.not_false, Bool.false_eq_true, Bool.true_eq_false, if_false, if_true, List.getElem?_cons_succ, List.getElem?_cons_zero, List.set_cons_succ, List.set_cons_zero, decide_eq_true_eq, List.length_cons, List.length_nil, Nat.zero_add, Nat.reduceAdd])
variable {S S' S1 S2 : CH} {Q : CV → CH → Prop} {h cb : Nat}
def lotT (cs : List Int) (xs : List CV) : Bool := match mapO intOf xs with
  | some ts => lotB cs ts
  | none => false
def lotV (cs : List Int) : CV → Bool
  | .tup xs => lotT cs xs
  | _ => false
theorem lotT_out {cs : List Int} {xs : List CV} {i : Nat} (hi : i < xs.length) (hx : isI xs[i] = false) : lotT cs xs = false := by
  unfold lotT
  cases e : mapO intOf xs with
  | none => rfl
  | some ts =>
    exfalso
    have e2 := mapO_ints e
    subst e2
    rw [List.getElem_map] at hx
    cases hx
theorem lotT_bad {cs : List Int} {xs : List CV} {i : Nat} {y l : Int} (hi : i < xs.length) (hx : xs[i] = .int y) (hc : ∀ c ∈ cs, 1 ≤ c) (ts : List Int) (ht : mapO intOf (xs.take i) = some ts) (hl : l = 0 ∨ l ∈ ts) (h : y ≤ l ∨ y ∉ cs) : lotT cs xs = false := by
  unfold lotT
  cases e : mapO intOf xs with
  | none => rfl
  | some us =>
    have e2 := mapO_ints e
    subst e2
    rw [List.getElem_map] at hx
    cases hx
    rw [← List.map_take, mapO_of_ints] at ht
    cases ht
    rw [List.length_map] at hi
    show lotB cs us = false
    rw [Bool.eq_false_iff]
    intro q
    obtain ⟨q1, q2⟩ := Bool.and_eq_true_iff.mp q
    have q1 := of_decide_eq_true q1
    have q3 := of_decide_eq_true (List.all_eq_true.mp q2 us[i] (List.getElem_mem hi))
    rcases h with h | h
    · rcases hl with rfl | hl
      · have := hc _ q3
        omega
      · obtain ⟨j, hj, e⟩ := List.getElem_of_mem hl
        rw [List.getElem_take] at e
        rw [List.length_take] at hj
        have := List.pairwise_iff_getElem.mp q1 j i (by omega) hi (by omega)
        omega
    · exact h q3
theorem take_int {xs : List CV} {i : Nat} {y : Int} {ts : List Int} (hi : i < xs.length) (hx : xs[i] = .int y) (ht : mapO intOf (xs.take i) = some ts) : mapO intOf (xs.take (i + 1)) = some (ts ++ [y]) := by
  have e := mapO_ints ht
  rw [List.take_succ_eq_append_getElem hi, e, hx, show [CV.int y] = [y].map CV.int from rfl, ← List.map_append, mapO_of_ints]
theorem law_is_lot_ok {thing : CV} {cs : List Int} {c : Nat} (T : Thing S thing) (hc : S[c]? = some (.lst (cs.map CV.int))) (h1 : ∀ c ∈ cs, 1 ≤ c) : wp (m__law_is_lot [thing, .ref c]) S Q = Q (.bl (lotV cs thing)) S := by
  refine wp_eq ?_
  have hh : wp (m__law_is_lot [thing, .ref c]) S fun r S' => r = .bl (lotV cs thing) ∧ S' = S := by
    refine wp_fn rfl ?_
    show wp (b__law_is_lot [some thing, some (.ref c), none, none]) S _
    unfold b__law_is_lot
    rcases T with ⟨xs, rfl, hx, he⟩ | ⟨h0, t, k1, k2⟩
    · walk_at "wp"
      rw [tyn_tup, optW_some, kt, optW_some, if_neg (by decide), wp_itT, ci_tup, optW_some]
      refine wp_forGo (I := fun i env S' => S' = S ∧ ∃ (ts : List Int) (l : Int) (a : Option CV), mapO intOf (xs.take i) = some ts ∧ ts.Pairwise (· < ·) ∧ (∀ t ∈ ts, t ∈ cs ∧ t ≤ l) ∧ (l = 0 ∨ l ∈ ts) ∧ env = [some (.tup xs), some (.ref c), some (.int l), a]) ?_ ?_ _ 0 _ _ (Nat.zero_add _) ⟨rfl, [], 0, none, rfl, .nil, nofun, .inl rfl, rfl⟩
      · rintro i env S' hi ⟨rfl, ts, l, a, ht, hp, hm, hl, rfl⟩
        refine ⟨xs[i], List.getElem?_eq_getElem hi, ?_⟩
        obtain ⟨t, p, q, e1, e2, e3, e4⟩ := he xs[i] (List.getElem_mem hi)
        walk_at "wp"
        rw [e1, optW_some, e2, optW_some]
        cases p with
        | false =>
          rw [if_pos rfl]
          refine ⟨?_, by trivial⟩
          exact congrArg CV.bl (lotT_out hi (by rw [← e4]; rfl)).symm
        | true =>
          rw [if_neg (by decide), optW_some, e3, optW_some]
          cases q with
          | true =>
            rw [if_pos rfl]
            refine ⟨?_, by trivial⟩
            exact congrArg CV.bl (lotT_out hi (by rw [← e4]; rfl)).symm
          | false =>
            rw [if_neg (by decide)]
            obtain ⟨y, ey⟩ : ∃ y, xs[i] = .int y := by
              generalize xs[i] = x at e4
              cases x with
              | int y => exact ⟨y, rfl⟩
              | _ => cases e4
            rw [ey, wp_cmp, vBk_bl]
            by_cases c1 : y ≤ l
            · rw [if_pos (decide_eq_true c1)]
              refine ⟨?_, by trivial⟩
              exact congrArg CV.bl (lotT_bad hi ey h1 ts ht hl (.inl c1)).symm
            · rw [if_neg (by simpa using c1), wp_inI (ns := cs) (.lst hc), vBk_bl, Bool.true_bne]
              by_cases c2 : y ∈ cs
              · rw [decide_eq_true c2, if_neg (by decide)]
                refine ⟨rfl, ts ++ [y], y, _, take_int hi ey ht, ?_, ?_, .inr (by simp), rfl⟩
                · rw [List.pairwise_append]
                  exact ⟨hp, List.pairwise_singleton _ _, fun a ha b hb => by rw [List.mem_singleton.mp hb]; have := (hm a ha).2; omega⟩
                · intro t ht
                  rcases List.mem_append.mp ht with ht | ht
                  · have := hm t ht
                    exact ⟨this.1, by omega⟩
                  · rw [List.mem_singleton.mp ht]
                    exact ⟨c2, Int.le_refl _⟩
              · rw [decide_eq_false c2, if_pos (by decide)]
                refine ⟨?_, by trivial⟩
                exact congrArg CV.bl (lotT_bad hi ey h1 ts ht hl (.inr c2)).symm
      · rintro env S' ⟨rfl, ts, l, a, ht, hp, hm, hl, rfl⟩
        refine ⟨rfl, ?_, by trivial⟩
        rw [List.take_length] at ht
        show _ = CV.bl (lotT cs xs)
        unfold lotT
        rw [ht]
        unfold lotB
        dsimp only
        rw [decide_eq_true hp, List.all_eq_true.mpr fun t h => decide_eq_true (hm t h).1]
        rfl
    · walk_at "wp"
      rw [k1, optW_some, k2, optW_some, if_pos rfl]
      refine ⟨?_, by trivial⟩
      unfold lotV
      split
      · rename_i xs
        exact absurd rfl (h0 xs)
      · rfl
  obtain ⟨v, S', e, rfl, rfl⟩ := hh
  exact e
theorem lstci {α : Type} {n : Nat} {L : List α} {c : α → CV} (h : S[n]? = some (.lst (L.map c))) : ∀ S', S <+: S' → (CI.lst n).len S' = some L.length ∧ ∀ i (hi : i < L.length), (CI.lst n).get S' i = some (c L[i]) := fun S' k => by
  refine ⟨by unfold CI.len; dsimp only; rw [pre_get k h, lstOf_lst]; simp, fun i hi => by unfold CI.get; dsimp only; rw [pre_get k h, lstOf_lst]; simp [hi]⟩
theorem desc_inj {vs : List Vn} (hd : Desc vs) {p w : Vn} (hp : p ∈ vs) (hw : w ∈ vs) (e : p.1 = w.1) : p = w := by
  obtain ⟨i, hi, rfl⟩ := List.getElem_of_mem hp
  obtain ⟨j, hj, rfl⟩ := List.getElem_of_mem hw
  rcases Nat.lt_trichotomy i j with q | q | q
  · have := desc_get hd hi hj q
    omega
  · subst q
    rfl
  · have := desc_get hd hj hi q
    omega
theorem is_enough_ok {v thing : CV} {vs : List Vn} {asked : List Int} {r : Nat} (h : SeqV S v (vs.map ver)) (hd : Desc vs) (h1 : ∀ x ∈ vs, 1 ≤ x.1) (hn : vs.length ≤ 100) (T : Thing S thing) (hr : S[r]? = some (.lst (asked.map CV.int))) (k : ∀ S', S <+: S' → Q (.bl (thB vs asked thing)) S') :
    wp (m__law_is_enough [v, .ref r, thing]) S Q := by
  refine wp_fn rfl ?_
  show wp (b__law_is_enough [some v, some (.ref r), some thing, none, none, none, none, none]) S _
  unfold b__law_is_enough
  walk_at "wp"
  refine commits_ok (i := 0) (j := 7) h hn rfl (fun _ => rfl) fun S1 k1 f1 => ?_
  rw [law_is_lot_ok (T.pre k1) f1 (fun c hc => by obtain ⟨x, hx, rfl⟩ := List.mem_map.mp hc; exact h1 x hx), vBk_bl]
  have no : ∀ {S'}, S <+: S' → thB vs asked thing = false → Q (.bl false) S' := fun k' e => by
    have := k _ k'
    rw [e] at this
    exact this
  have yes : ∀ {S'}, S <+: S' → thB vs asked thing = true → Q (.bl true) S' := fun k' e => by
    have := k _ k'
    rw [e] at this
    exact this
  split
  · rename_i q
    refine no k1 ?_
    cases thing with
    | tup xs =>
      have q : lotT (vs.map (·.1)) xs = false := q
      show (match mapO intOf xs with | some ts => enB vs asked ts | none => false) = false
      unfold lotT at q
      cases e : mapO intOf xs with
      | none => rfl
      | some ts =>
        rw [e] at q
        have q : lotB (vs.map (·.1)) ts = false := q
        show enB vs asked ts = false
        unfold enB
        rw [q]
        rfl
    | _ => rfl
  · rename_i q
    cases thing with
    | tup xs =>
      unfold lotV lotT at q
      dsimp only at q
      cases hm : mapO intOf xs with
      | none =>
        rw [hm] at q
        exact absurd rfl q
      | some ts =>
        rw [hm] at q
        have q : lotB (vs.map (·.1)) ts = true := by simpa using q
        have ex := mapO_ints hm
        subst ex
        have en : thB vs asked (.tup (ts.map CV.int)) = asked.all (okS vs ts) := by
          unfold thB
          dsimp only
          rw [hm]
          dsimp only
          unfold enB
          rw [q]
          rfl
        refine kept_ok (h.keep k1) hn rfl (fun _ => rfl) (fun _ => rfl) fun S2 k2 f2 => ?_
        have kk2 := k1.trans k2
        rw [pre_get kk2 hr, lstOf_lst, optW_some]
        have q := lstci (pre_get kk2 hr)
        rw [(q S2 (List.prefix_refl _)).1, optW_some]
        refine wp_forGo (I := fun i env S' => S' = S2 ∧ (asked.take i).all (okS vs ts) = true ∧ ∃ a b c d, env = [some v, some (.ref r), some (.tup (ts.map CV.int)), some (.ref S1.length), a, b, c, d]) ?_ ?_ _ 0 _ _ (Nat.zero_add _) ⟨rfl, rfl, _, _, _, _, rfl⟩
        · rintro i env S' hi ⟨rfl, ha, a, b, c, d, rfl⟩
          refine ⟨_, (q S' (List.prefix_refl _)).2 i hi, ?_⟩
          walk_at "wp"
          rw [law_seen_ok (h.keep kk2), law_seen_ok (.lst f2)]
          have et : asked.take (i + 1) = asked.take i ++ [asked[i]] := List.take_succ_eq_append_getElem hi
          have yes' : okS vs ts asked[i] = true → (asked.take (i + 1)).all (okS vs ts) = true := fun z => by
            rw [et, List.all_append, ha]
            simp [z]
          have no' : okS vs ts asked[i] = false → Q (.bl false) S' := fun z => no kk2 (by
            rw [en, Bool.eq_false_iff]
            intro w
            rw [List.all_eq_true] at w
            rw [w _ (List.getElem_mem hi)] at z
            cases z)
          simp only [isNon_opt]
          unfold okS at yes' no'
          cases e1 : seenP (keptP vs ts) asked[i] with
          | none =>
            rw [e1] at yes' no'
            rw [if_pos (by rfl)]
            cases e2 : seenP vs asked[i] with
            | none =>
              rw [e2] at yes' no'
              rw [if_neg (by simp)]
              exact ⟨by trivial, yes' rfl, _, _, _, _, rfl⟩
            | some w =>
              rw [e2] at yes' no'
              rw [if_pos (by simp)]
              rw [show optV (some w) = .tup [.int w.1, mk w.2] from rfl]
              simp only [wp_ixT, at2_1, optW_some, isNon_mk, vBk_bl, Bool.true_bne]
              cases c4 : w.2.isNone with
              | true =>
                rw [if_neg (by decide)]
                exact ⟨by trivial, yes' c4, _, _, _, _, rfl⟩
              | false =>
                rw [if_pos (by decide)]
                exact no' c4
          | some p =>
            rw [e1] at yes' no'
            rw [if_neg (by simp)]
            obtain ⟨p1, p2⟩ := seenP_some e1
            have p3 := (List.mem_filter.mp p1).1
            cases e2 : seenP vs asked[i] with
            | none => exact absurd p2 (seenP_none e2 p p3)
            | some w =>
              rw [e2] at yes' no'
              rw [show optV (some w) = .tup [.int w.1, mk w.2] from rfl, show optV (some p) = .tup [.int p.1, mk p.2] from rfl]
              simp only [wp_ixT, at2_0, optW_some, wp_eqI, vBk_bl, Bool.true_bne]
              by_cases c5 : w.1 = p.1
              · have := desc_inj hd (seenP_some e2).1 p3 c5
                subst this
                rw [decide_eq_true rfl, if_neg (by decide)]
                exact ⟨by trivial, yes' (decide_eq_true rfl), _, _, _, _, rfl⟩
              · rw [decide_eq_false c5, if_pos (by decide)]
                exact no' (decide_eq_false fun z => c5 (by cases z; rfl))
        · rintro env S' ⟨rfl, ha, a, b, c, d, rfl⟩
          refine ⟨(q S' (List.prefix_refl _)).1, ?_⟩
          rw [List.take_length] at ha
          exact yes kk2 (en.trans ha)
    | _ => exact absurd rfl q
end Lk73
end
section
set_option Elab.async false
set_option linter.all false
set_option maxRecDepth 100000
set_option maxHeartbeats 4000000
namespace Lk73
open PySem L2 G
local macro_rules | `(tactic| walk_at "wp") => `(tactic| simp only [wp_sSeq, wp_sAsg, wp_sNil, wp_sExpr, wp_sRet, wp_sRetN, fnQ_ret, fnQ_nx, wp_sIf, wp_gN, wp_gSet, wp_eB, wp_eC, wp_eV, wp_add, wp_sub, wp_mul, wp_div, wp_mod, wp_pow, wp_cmp, wp_cV, vBk_bl, wp_cNot, wp_cAnd, wp_cOr, wp_eAnd, wp_eOr, wp_eNot, wp_eIf, wp_aNil, wp_aCons, wp_eTup, wp_eLst, wp_eCl, wp_int, wp_abs, wp_min, wp_max, wp_eNeg, wp_eIsN, wp_ret, wp_okf, wp_ixR, wp_ixT, optW_some, wo_vSet, wo_isLst, wo_vApp, wo_itR, wo_enR, mlst_lst, lstOf_lst, lstOf_rol, wp_eIsi, wp_eIsi2, wp_sFor, wp_iSeq, wp_iCl, wp_eApp, wp_eRev, wp_eSl, wp_oNone, wp_oSome, wp_slT, wp_revT, wp_dnew, wp_gT, wp_gsCons, wp_gsNil, wp_eqI, wp_sPar, wp_isB, wp_eDc, vBk_bl, wp_sStk, wp_lenT, wp_eChain, wp_tupleT, wp_tupleR, wp_listT, wp_listR, wp_addT, wp_R1,
  Bool.false_bne, Bool.true_bne, Bool.not_eq_true', decide_eq_false_iff_not, Bool.not_true, Bool.not_false, Bool.false_eq_true, Bool.true_eq_false, if_false, if_true, List.getElem?_cons_succ, List.getElem?_cons_zero, List.set_cons_succ, List.set_cons_zero, decide_eq_true_eq, List.length_cons, List.length_nil, Nat.zero_add, Nat.reduceAdd])
variable {S S' S1 S2 : CH} {Q : CV → CH → Prop} {h cb : Nat}
theorem filt_ok {r : Nat} {ns : List Int} {env : G.Env} {i j : Nat} {cd : G.Env → M Bool} {p : Int → Bool} (hr : S[r]? = some (.lst (ns.map CV.int))) (hn : ns.length ≤ 1000) (e0 : env[i]? = some (some (.ref r))) (hj : ∀ x, ((env.set j none).set j (some x))[j]? = some (some x))
    (hc : ∀ x S', S <+: S' → wp (cd ((env.set j none).set j (some (.int x)))) S' fun b S2 => b = p x ∧ S2 = S') (k : ∀ S', S <+: S' → S'[S.length]? = some (.lst ((ns.filter p).map CV.int)) → Q (.ref S.length) S') :
    wp (eLc (iSeq (eV i)) [j] (gN j) cd (eV j) env) S Q := by
  rw [wp_eLc, wp_iSeq, wp_eV, e0, optW_some, optW_some, wp_itR (xs := ns.map CV.int) (by rw [hr]; rfl)]
  have q := lstci hr
  rw [(q S (List.prefix_refl _)).1, optW_some]
  refine wp_lcPure ns CV.int p CV.int (small_line (by omega)) q (fun x hx S' k1 => ?_) fun S' k1 k2 => ?_
  · show wp (gN j (.int x) (env.set j none)) S' _
    rw [wp_gN]
    refine wp_mono (hc x S' k1) fun b S2 ⟨e, e2⟩ => ?_
    subst e2
    refine ⟨e, List.prefix_refl _, fun _ => ?_⟩
    rw [wp_eV, hj, optW_some, optW_some]
    exact ⟨rfl, List.prefix_refl _⟩
  · exact k S' k1 k2
theorem some_ok {n r : Nat} {ns : List Int} {share : Int} (B : BG S h cb n) (hn : n < 50000) (hz : ns.length ≤ 100) (hr : r ≠ h) (e : S[r]? = some (.lst (ns.map CV.int))) (k : ∀ (ms : List Int) S', ms.length ≤ ns.length → Fr h S S' → BG S' h cb (n + ns.length) → S'[S.length]? = some (.lst (ms.map CV.int)) → Q (.ref S.length) S') :
    wp (m__law_some [.ref h, .ref r, .int share]) S Q := by
  refine wp_fn rfl ?_
  show wp (b__law_some [some (.ref h), some (.ref r), some (.int share), none, none]) S _
  unfold b__law_some
  walk_at "wp"
  have hB := B.lt
  have hC := B.ltc
  refine ⟨by decide, ?_⟩
  have e1 : (S ++ [CO.lst []])[r]? = some (.lst (ns.map CV.int)) := pre_get (List.prefix_append _ _) e
  have hrl := (List.getElem?_eq_some_iff.mp e).1
  rw [e1, lstOf_lst, optW_some]
  have q := lstci e1
  rw [(q _ (List.prefix_refl _)).1, optW_some]
  refine wp_forGo (I := fun i env S' => Fr h S S' ∧ ∃ ms : List Int, S'[S.length]? = some (.lst (ms.map CV.int)) ∧ ms.length ≤ i ∧ BG S' h cb (n + i) ∧ ∃ a, env = [some (.ref h), some (.ref r), some (.int share), some (.ref S.length), a]) ?_ ?_ _ 0 _ _ (Nat.zero_add _) ⟨.app, [], new_get, Nat.zero_le _, B.app, _, rfl⟩
  · rintro i env S' hi ⟨f3, ms, e3, hm, B3, a, rfl⟩
    have er := f3.2 r _ hr e
    refine ⟨_, (lstci er S' (List.prefix_refl _)).2 i hi, ?_⟩
    walk_at "wp"
    refine draw_bg B3 (by omega) (by decide) (by decide) fun d S2 _ _ f4 B4 => ?_
    have e4 := f4.2 S.length _ (by omega) e3
    walk_at "wp"
    split
    · rw [e4]
      walk_at "wp"
      refine ⟨small_line (by simp; omega), (f3.tr f4).set (Nat.le_refl _), ms ++ [ns[i]], ?_, ?_, B4.set (by omega) (by omega), _, rfl⟩
      · rw [set_at e4, List.map_append]
        rfl
      · simp
        exact hm
    · exact ⟨f3.tr f4, ms, e4, by omega, B4, _, rfl⟩
  · rintro env S' ⟨f3, ms, e3, hm, B3, a, rfl⟩
    have er := f3.2 r _ hr e
    exact ⟨(lstci er S' (List.prefix_refl _)).1, k ms S' hm f3 B3 e3⟩
theorem at_ints {ns : List Int} {e : Int} (h1 : 0 ≤ e) (h2 : e < ns.length) : ∃ y, atI (ns.map CV.int) e = some (.int y) := by
  obtain ⟨k, rfl⟩ : ∃ k : Nat, e = k := ⟨e.toNat, by omega⟩
  exact ⟨ns[k]'(by omega), atI_nat (by rw [List.getElem?_map, List.getElem?_eq_getElem (by omega)]; rfl)⟩
theorem lot_ok {n m d : Nat} {vs : List Vn} {due : List Int} (B : BG S h cb n) (hn : n < 40000) (hvn : vs.length ≤ 12) (hm : m ≠ h) (hd : d ≠ h) (e : S[m]? = some (.lst (vs.map ver))) (ed : S[d]? = some (.lst (due.map CV.int))) (hdue : due.length ≤ 40)
    (k : ∀ (ts : List Int) S', ts.length ≤ 40 → Fr h S S' → BG S' h cb (n + 50) → Q (.tup (ts.map CV.int)) S') : wp (m__law_lot [.ref h, .ref m, .ref d]) S Q := by
  refine wp_fn rfl ?_
  show wp (b__law_lot [some (.ref h), some (.ref m), some (.ref d), none, none, none, none, none, none]) S _
  unfold b__law_lot
  walk_at "wp"
  refine draw_bg B (by omega) (by decide) (by decide) fun kind S1 _ _ f1 B1 => ?_
  have e1 := f1.2 m _ hm e
  have ed1 := f1.2 d _ hd ed
  walk_at "wp"
  refine commits_ok (i := 1) (j := 7) (.lst e1) (by omega) rfl (fun _ => rfl) fun S2 k2 g2 => ?_
  rw [wp_sortR (by rw [g2]; rfl)]
  have hcl : (sortI (vs.map (·.1))).length ≤ 12 := by
    rw [(sortI_perm _).length_eq, List.length_map]
    exact hvn
  generalize hcs : sortI (vs.map (·.1)) = cs at hcl
  have kk : S1 <+: S2 ++ [CO.lst (cs.map CV.int)] := k2.trans (List.prefix_append _ _)
  have hS2 : S2.length ≠ h := by
    have := B1.lt
    have := k2.length_le
    omega
  have B3 : BG (S2 ++ [CO.lst (cs.map CV.int)]) h cb (n + 1) := B1.pre kk
  have f3 : Fr h S (S2 ++ [CO.lst (cs.map CV.int)]) := f1.tr (.pre kk)
  have e3 : (S2 ++ [CO.lst (cs.map CV.int)])[S2.length]? = some (.lst (cs.map CV.int)) := new_get
  have ed3 := pre_get kk ed1
  have em3 := pre_get kk e1
  generalize hS3 : S2 ++ [CO.lst (cs.map CV.int)] = S3 at B3 f3 e3 ed3 em3 kk ⊢
  clear hS3
  walk_at "wp"
  have hdue' : optW (lstOf S3[d]?) fun xs => Q (.tup xs) S3 := by
    rw [ed3, lstOf_lst, optW_some]
    exact k due S3 hdue f3 (B3.up (by omega))
  have lenC : ∀ {S' : CH} {Q : CV → CH → Prop}, S3 <+: S' → wp (vLen [.ref S2.length]) S' Q = Q (.int cs.length) S' := fun {S' Q} k' => by
    rw [wp_lenR (xs := cs.map CV.int) (by rw [pre_get k' e3]; rfl), List.length_map]
  have fin : ∀ (r : Nat) (ts : List Int) (S' : CH) (j : Nat), S'[r]? = some (.lst (ts.map CV.int)) → ts.length ≤ 40 → Fr h S3 S' → BG S' h cb (n + 1 + j) → j ≤ 40 → wp (vTuple [.ref r]) S' fun v S1 => Q v S1 := fun r ts S' j er ht f B hj => by
    rw [wp_tupleR, er, lstOf_lst, optW_some]
    exact k ts S' ht (f3.tr f) (B.up (by omega))
  have fl : ∀ (p : Int → Bool) (ns : List Int), (ns.filter p).length ≤ ns.length := fun p ns => List.length_filter_le _ _
  by_cases c0 : kind = 0
  · rw [if_pos c0]
    exact hdue'
  rw [if_neg c0, lenC (List.prefix_refl _), wp_eqI, vBk_bl, Bool.false_bne]
  by_cases c1 : (cs.length : Int) = 0
  · rw [decide_eq_true c1, if_pos rfl]
    exact hdue'
  rw [decide_eq_false c1, if_neg (by decide)]
  have hB3 := B3.lt
  by_cases c2 : kind = 1
  · rw [if_pos c2]
    refine draw_bg B3 (by omega) (by decide) (by decide) fun x S4 _ _ f4 B4 => ?_
    walk_at "wp"
    refine some_ok B4 (by omega) (by omega) hS2 (f4.2 _ _ hS2 e3) fun ms S5 hms f5 B5 e5 => ?_
    exact fin _ ms S5 (1 + cs.length) e5 (by omega) (f4.tr f5) (B5.up (by omega)) (by omega)
  rw [if_neg c2]
  by_cases c3 : kind = 2
  · rw [if_pos c3, lenC (List.prefix_refl _)]
    refine draw_bg B3 (by omega) (by omega) (by omega) fun x S4 x0 x1 f4 B4 => ?_
    have e4 := f4.2 _ _ hS2 e3
    have ed4 := f4.2 _ _ hd ed3
    obtain ⟨y, ey⟩ := at_ints (ns := cs) x0 x1
    walk_at "wp"
    rw [e4, lstOf_lst, optW_some, ey, optW_some]
    refine filt_ok (p := fun x => decide (x ∈ due) || decide (x = y)) e4 (by omega) rfl (fun _ => rfl) (fun x S' k' => ?_) fun S5 k5 e5 => ?_
    · refine (id : wp (cOr (cV (eB (vIn false) (eV 8) (eV 2))) (cV (eB (vEq false) (eV 8) (eV 5))) [some (CV.ref h), some (CV.ref m), some (CV.ref d), some (CV.int kind), some (CV.ref S2.length), some (.int y), none, none, some (.int x)]) S' _ → _) ?_
      walk_at "wp"
      rw [wp_inI (ns := due) (.lst (pre_get k' ed4)), vBk_bl, Bool.false_bne]
      by_cases z : x ∈ due
      · rw [decide_eq_true z, if_pos rfl]
        exact ⟨rfl, by trivial⟩
      · rw [decide_eq_false z, if_neg (by decide)]
        exact ⟨rfl, by trivial⟩
    · have := fl (fun x => decide (x ∈ due) || decide (x = y)) cs
      exact fin _ _ S5 1 e5 (by omega) (f4.tr (.pre k5)) ((B4.pre k5).up (by omega)) (by omega)
  rw [if_neg c3]
  by_cases c4 : kind = 3
  · rw [if_pos c4, lenC (List.prefix_refl _)]
    refine draw_bg B3 (by omega) (by omega) (by omega) fun x S4 x0 x1 f4 B4 => ?_
    have e4 := f4.2 _ _ hS2 e3
    have ed4 := f4.2 _ _ hd ed3
    obtain ⟨y, ey⟩ := at_ints (ns := cs) x0 x1
    walk_at "wp"
    rw [e4, lstOf_lst, optW_some, ey, optW_some]
    refine filt_ok (p := fun x => !decide (x = y)) ed4 (by omega) rfl (fun _ => rfl) (fun x S' k' => ?_) fun S5 k5 e5 => ?_
    · refine (id : wp (cV (eB (vEq true) (eV 8) (eV 5)) [some (CV.ref h), some (CV.ref m), some (CV.ref d), some (CV.int kind), some (CV.ref S2.length), some (.int y), none, none, some (.int x)]) S' _ → _) ?_
      walk_at "wp"
      exact ⟨by trivial, by trivial⟩
    · have := fl (fun x => !decide (x = y)) due
      exact fin _ _ S5 1 e5 (by omega) (f4.tr (.pre k5)) ((B4.pre k5).up (by omega)) (by omega)
  rw [if_neg c4]
  by_cases c5 : kind = 4
  · rw [if_pos c5, wp_eLc, wp_iSeq, wp_eV]
    simp only [List.getElem?_cons_succ, List.getElem?_cons_zero, optW_some]
    rw [wp_itR (xs := vs.map ver) (by rw [em3]; rfl)]
    have q := lstci em3
    rw [(q S3 (List.prefix_refl _)).1, optW_some]
    refine wp_lcPure vs ver (fun v => v.2.isNone) (fun x => .int x.1) (small_line (by omega)) q (fun x hx S' k1 => ?_) fun S4 k4 e4 => ?_
    · refine (id : wp (gN 7 (ver x) [some (CV.ref h), some (CV.ref m), some (CV.ref d), some (CV.int kind), some (CV.ref S2.length), none, none, none, none]) S' _ → _) ?_
      walk_at "wp"
      rw [show ver x = .tup [.int x.1, mk x.2] from rfl]
      simp only [wp_ixT, at2_0, at2_1, optW_some, isNon_mk, Bool.false_bne, vBk_bl]
      exact ⟨by trivial, List.prefix_refl _, fun _ => ⟨by trivial, List.prefix_refl _⟩⟩
    · have e4' : S4[S3.length]? = some (.lst (((vs.filter fun v => v.2.isNone).map (·.1)).map CV.int)) := by
        rw [e4, List.map_map]
        rfl
      have hlv : ((vs.filter fun v => v.2.isNone).map (·.1)).length ≤ 12 := by
        rw [List.length_map]
        exact Nat.le_trans (List.length_filter_le _ _) hvn
      have B4 := B3.pre k4
      refine some_ok B4 (by omega) (by omega) (by omega) e4' fun ms S5 hms f5 B5 e5 => ?_
      have e6 := f5.2 _ _ hS2 (pre_get k4 e3)
      have ed6 := f5.2 _ _ hd (pre_get k4 ed3)
      refine filt_ok (p := fun x => decide (x ∈ due) || decide (x ∈ ms)) e6 (by omega) rfl (fun _ => rfl) (fun x S' k' => ?_) fun S6 k6 e7 => ?_
      · refine (id : wp (cOr (cV (eB (vIn false) (eV 8) (eV 2))) (cV (eB (vIn false) (eV 8) (eV 6))) [some (CV.ref h), some (CV.ref m), some (CV.ref d), some (CV.int kind), some (CV.ref S2.length), none, some (.ref S4.length), none, some (.int x)]) S' _ → _) ?_
        walk_at "wp"
        rw [wp_inI (ns := due) (.lst (pre_get k' ed6)), vBk_bl, Bool.false_bne]
        by_cases z : x ∈ due
        · rw [decide_eq_true z, if_pos rfl]
          exact ⟨rfl, by trivial⟩
        · rw [decide_eq_false z, if_neg (by decide), wp_inI (ns := ms) (.lst (pre_get k' e5)), vBk_bl, Bool.false_bne]
          exact ⟨rfl, by trivial⟩
      · have := fl (fun x => decide (x ∈ due) || decide (x ∈ ms)) cs
        exact fin _ _ S6 12 e7 (by omega) ((Fr.pre k4).tr (f5.tr (.pre k6))) ((B5.pre k6).up (by omega)) (by omega)
  rw [if_neg c5, e3, lstOf_lst, optW_some]
  exact k cs S3 (by omega) f3 (B3.up (by omega))
end Lk73
end
section
set_option Elab.async false
set_option linter.all false
set_option maxRecDepth 100000
set_option maxHeartbeats 4000000
namespace Lk73
open PySem L2 G
local macro_rules | `(tactic| walk_at "wp") => `(tactic| simp only [wp_sSeq, wp_sAsg, wp_sNil, wp_sExpr, wp_sRet, wp_sRetN, fnQ_ret, fnQ_nx, wp_sIf, wp_gN, wp_gSet, wp_eB, wp_eC, wp_eV, wp_add, wp_sub, wp_mul, wp_div, wp_mod, wp_pow, wp_cmp, wp_cV, vBk_bl, wp_cNot, wp_cAnd, wp_cOr, wp_eAnd, wp_eOr, wp_eNot, wp_eIf, wp_aNil, wp_aCons, wp_eTup, wp_eLst, wp_eCl, wp_int, wp_abs, wp_min, wp_max, wp_eNeg, wp_eIsN, wp_ret, wp_okf, wp_ixR, wp_ixT, optW_some, wo_vSet, wo_isLst, wo_vApp, wo_itR, wo_enR, mlst_lst, lstOf_lst, lstOf_rol, wp_eIsi, wp_eIsi2, wp_sFor, wp_iSeq, wp_iCl, wp_eApp, wp_eRev, wp_eSl, wp_oNone, wp_oSome, wp_slT, wp_revT, wp_dnew, wp_gT, wp_gsCons, wp_gsNil, wp_eqI, wp_sPar, wp_isB, wp_eDc, vBk_bl, wp_sStk, wp_lenT, wp_eChain, wp_tupleT, wp_tupleR, wp_listT, wp_listR, wp_addT, wp_R1,
  Bool.false_bne, Bool.true_bne, Bool.not_eq_true', decide_eq_false_iff_not, Bool.not_true, Bool.not_false, Bool.false_eq_true, Bool.true_eq_false, if_false, if_true, List.getElem?_cons_succ, List.getElem?_cons_zero, List.set_cons_succ, List.set_cons_zero, decide_eq_true_eq, List.length_cons, List.length_nil, Nat.zero_add, Nat.reduceAdd])
variable {S S' S1 S2 : CH} {Q : CV → CH → Prop} {h cb : Nat}
theorem el_int {i : Int} : El S (.int i) := ⟨"int", true, false, rfl, ki, kib, rfl⟩
theorem el_bl {b : Bool} : El S (.bl b) := ⟨"bool", true, true, rfl, by decide +kernel, by decide +kernel, rfl⟩
theorem el_str {z : Str} : El S (.str z) := ⟨"str", false, false, rfl, by decide +kernel, by decide +kernel, rfl⟩
theorem el_non : El S .non := ⟨"NoneType", false, false, rfl, by decide +kernel, by decide +kernel, rfl⟩
theorem el_tup {xs : List CV} : El S (.tup xs) := ⟨"tuple", false, false, rfl, by decide +kernel, by decide +kernel, rfl⟩
theorem el_lst {n : Nat} {xs : List CV} (e : S[n]? = some (.lst xs)) : El S (.ref n) := ⟨"list", false, false, by unfold tyn; dsimp only; rw [e], by decide +kernel, by decide +kernel, rfl⟩
theorem th_tup {xs : List CV} (h1 : xs.length ≤ 100) (h2 : ∀ x ∈ xs, El S x) : Thing S (.tup xs) := .inl ⟨xs, rfl, h1, h2⟩
theorem th_ints {ts : List Int} (h1 : ts.length ≤ 100) : Thing S (.tup (ts.map CV.int)) := th_tup (by rw [List.length_map]; exact h1) fun x hx => by
  obtain ⟨i, _, rfl⟩ := List.mem_map.mp hx
  exact el_int
theorem th_oth {v : CV} {t : String} (h0 : ∀ xs, v ≠ .tup xs) (h1 : tyn S v = some t) (h2 : kitB t "tuple" = some false) : Thing S v := .inr ⟨h0, t, h1, h2⟩
theorem cut_len {α : Type} (xs : List α) (a b : Option Int) : (cutL xs a b).length ≤ xs.length := by
  unfold cutL
  rw [List.length_take, List.length_drop]
  omega
theorem cut_el {ts : List Int} {a b : Option Int} : ∀ x ∈ cutL (ts.map CV.int) a b, El S x := fun x hx => by
  obtain ⟨ms, e⟩ := cut_map (f := CV.int) ts a b
  rw [e] at hx
  obtain ⟨i, _, rfl⟩ := List.mem_map.mp hx
  exact el_int
theorem wp_lit11 {env : G.Env} : wp (eDLit (((eC (.int 1)), (eC (.int 1))) :: ([])) env) S Q = Q (.ref S.length) (S ++ [.dct [(.inl 1, .int 1)]]) := by
  refine wp_eq ?_
  have e : (eDLit (((eC (.int 1)), (eC (.int 1))) :: ([])) env) S = (match (S ++ [CO.dct []])[S.length]? with
    | some (.dct []) => M.grd (1 ≤ 15) (fun S3 => Out.ok (CV.ref S.length) (S3.set S.length (.dct [(.inl 1, .int 1)]))) (S ++ [CO.dct []])
    | _ => .stuck) := rfl
  rw [e, new_get]
  show Out.ok _ ((S ++ [CO.dct []]).set S.length _) = _
  rw [List.set_append, if_neg (by omega), Nat.sub_self]
  rfl
theorem at5 {a b c d f : CV} {e : Int} (h1 : 0 ≤ e) (h2 : e < 5) : ∃ x, atI [a, b, c, d, f] e = some x ∧ (x = a ∨ x = b ∨ x = c ∨ x = d ∨ x = f) := by
  have : e = 0 ∨ e = 1 ∨ e = 2 ∨ e = 3 ∨ e = 4 := by omega
  rcases this with rfl | rfl | rfl | rfl | rfl
  · exact ⟨a, rfl, by simp⟩
  · exact ⟨b, rfl, by simp⟩
  · exact ⟨c, rfl, by simp⟩
  · exact ⟨d, rfl, by simp⟩
  · exact ⟨f, rfl, by simp⟩
theorem at7 {a b c d f g i : CV} {e : Int} (h1 : 0 ≤ e) (h2 : e < 7) : ∃ x, atI [a, b, c, d, f, g, i] e = some x ∧ (x = a ∨ x = b ∨ x = c ∨ x = d ∨ x = f ∨ x = g ∨ x = i) := by
  have : e = 0 ∨ e = 1 ∨ e = 2 ∨ e = 3 ∨ e = 4 ∨ e = 5 ∨ e = 6 := by omega
  rcases this with rfl | rfl | rfl | rfl | rfl | rfl | rfl
  · exact ⟨a, rfl, by simp⟩
  · exact ⟨b, rfl, by simp⟩
  · exact ⟨c, rfl, by simp⟩
  · exact ⟨d, rfl, by simp⟩
  · exact ⟨f, rfl, by simp⟩
  · exact ⟨g, rfl, by simp⟩
  · exact ⟨i, rfl, by simp⟩
theorem no_lot_ok {n : Nat} {ts : List Int} (B : BG S h cb n) (hn : n < 60000) (hz : ts.length ≤ 40) (k : ∀ v S', Thing S' v → Fr h S S' → BG S' h cb (n + 3) → Q v S') : wp (m__law_no_lot [.ref h, .tup (ts.map CV.int)]) S Q := by
  refine wp_fn rfl ?_
  show wp (b__law_no_lot [some (.ref h), some (.tup (ts.map CV.int)), none, none, none]) S _
  unfold b__law_no_lot
  walk_at "wp"
  refine draw_bg B (by omega) (by decide) (by decide) fun kind S1 _ _ f1 B1 => ?_
  walk_at "wp"
  rw [List.length_map]
  refine draw_bg B1 (by omega) (by omega) (by omega) fun at' S2 _ _ f2 B2 => ?_
  walk_at "wp"
  have F2 : Fr h S S2 := f1.tr f2
  have hB := B2.lt
  have cl : ∀ a b, (cutL (ts.map CV.int) a b).length ≤ 40 := fun a b => by
    have := cut_len (ts.map CV.int) a b
    rw [List.length_map] at this
    omega
  have sz : ∀ n, n ≤ 1000 → n ≤ sizeLine := fun n hn => Nat.le_of_lt (small_line hn)
  split
  · exact k _ _ (th_oth nofun (t := "list") (by unfold tyn; dsimp only; rw [new_get]) (by decide +kernel)) (F2.tr .app) (B2.app.up (by omega))
  split
  · rw [← List.map_reverse]
    exact k _ _ (th_ints (by rw [List.length_reverse]; omega)) F2 (B2.up (by omega))
  split
  · have c1 := cl none (some at')
    have c2 := cl (some (if at' - 1 > 0 then at' - 1 else 0)) none
    refine ⟨sz _ (by omega), k _ _ (th_tup (by rw [List.length_append]; omega) fun x hx => ?_) F2 (B2.up (by omega))⟩
    rcases List.mem_append.mp hx with hx | hx
    · exact cut_el x hx
    · exact cut_el x hx
  split
  · refine ⟨by decide, by decide +kernel, by decide, draw_bg B2.app (by omega) (by decide) (by decide) fun d S3 d0 d1 f3 B3 => ?_⟩
    walk_at "wp"
    rw [f3.2 S2.length _ (by omega) new_get, lstOf_lst, optW_some]
    obtain ⟨x, q1, q2⟩ := at4 (a := .int 0) (b := .int (-1)) (c := .int (10 ^ Int.toNat 18)) (d := .int (10 ^ Int.toNat 30)) d0 d1
    rw [q1, optW_some]
    obtain ⟨y, rfl⟩ : ∃ y, x = .int y := by
      rcases q2 with rfl | rfl | rfl | rfl
      all_goals exact ⟨_, rfl⟩
    refine ⟨by decide, ?_⟩
    rw [show [CV.int y] = [y].map CV.int from rfl, wp_addL (xs := ts.map CV.int) (ys := [y].map CV.int) (pre_get (List.prefix_append _ _) new_get) new_get (by simp; exact sz _ (by omega)), ← List.map_append, wp_sortR (ns := ts ++ [y]) (by rw [new_get]; rfl)]
    walk_at "wp"
    rw [new_get, lstOf_lst, optW_some]
    refine k _ _ (th_ints (by rw [(sortI_perm _).length_eq]; simp; omega)) (F2.tr (.tr .app (f3.tr (.tr .app (.tr .app (.tr .app .app)))))) (B3.app.app.app.app.up (by omega))
  split
  · have c1 := cl (some 1) none
    refine ⟨by decide, sz _ (by omega), k _ _ (th_tup (by rw [List.length_append]; simp; omega) fun x hx => ?_) F2 (B2.up (by omega))⟩
    rcases List.mem_append.mp hx with hx | hx
    · rw [List.mem_singleton.mp hx]
      exact el_bl
    · exact cut_el x hx
  split
  · refine ⟨by decide, by decide, by decide, by decide, draw_bg B2.app.app (by omega) (by decide) (by decide) fun d S3 d0 d1 f3 B3 => ?_⟩
    walk_at "wp"
    rw [f3.2 (S2 ++ [CO.lst [CV.int 1]]).length _ (by simp; omega) new_get, lstOf_lst, optW_some]
    have e1 : S3[S2.length]? = some (.lst [.int 1]) := f3.2 S2.length _ (by omega) (pre_get (List.prefix_append _ _) new_get)
    obtain ⟨x, q1, q2⟩ := at5 (a := .str "1") (b := .non) (c := .tup [.int 1]) (d := .ref S2.length) (f := .tup []) d0 d1
    rw [q1, optW_some]
    have hx0 : El S3 x := by
      rcases q2 with rfl | rfl | rfl | rfl | rfl
      · exact el_str
      · exact el_non
      · exact el_tup
      · exact el_lst e1
      · exact el_tup
    have c1 := cl none (some at')
    have c2 := cl (some at') none
    refine ⟨by decide, sz _ (by omega), sz _ (by rw [List.length_append]; simp; omega), k _ _ (th_tup (by rw [List.length_append, List.length_append]; simp; omega) fun x hx => ?_) (F2.tr (.tr .app (.tr .app f3))) (B3.up (by omega))⟩
    rcases List.mem_append.mp hx with hx | hx
    · rcases List.mem_append.mp hx with hx | hx
      · exact cut_el x hx
      · rw [List.mem_singleton.mp hx]
        exact hx0
    · exact cut_el x hx
  split
  · refine draw_bg B2 (by omega) (by decide) (by decide) fun d S3 d0 d1 f3 B3 => ?_
    have c1 := cl none (some at')
    have c2 := cl (some (at' + 1)) none
    refine ⟨by decide, sz _ (by omega), sz _ (by rw [List.length_append]; simp; omega), k _ _ (th_tup (by rw [List.length_append, List.length_append]; simp; omega) fun x hx => ?_) (F2.tr f3) (B3.up (by omega))⟩
    rcases List.mem_append.mp hx with hx | hx
    · rcases List.mem_append.mp hx with hx | hx
      · exact cut_el x hx
      · rw [List.mem_singleton.mp hx]
        exact el_int
    · exact cut_el x hx
  split
  · exact ⟨by decide, k _ _ (th_tup (by simp) fun x hx => by rw [List.mem_singleton.mp hx]; exact el_tup) F2 (B2.up (by omega))⟩
  · rw [wp_lit11]
    refine ⟨by decide, draw_bg B2.app.app.app (by omega) (by decide) (by decide) fun d S3 d0 d1 f3 B3 => ?_⟩
    walk_at "wp"
    rw [f3.2 (S2 ++ [CO.dct []] ++ [CO.dct [(Sum.inl 1, CV.int 1)]]).length _ (by simp; omega) new_get, lstOf_lst, optW_some]
    have e1 : S3[S2.length]? = some (.dct []) := f3.2 S2.length _ (by omega) (pre_get (List.prefix_append _ _) (pre_get (List.prefix_append _ _) new_get))
    have e2 : S3[(S2 ++ [CO.dct []]).length]? = some (.dct [(.inl 1, .int 1)]) := f3.2 _ _ (by simp; omega) (pre_get (List.prefix_append _ _) new_get)
    obtain ⟨x, q1, q2⟩ := at7 (a := .non) (b := .bl true) (c := .int 1) (d := .str "") (f := .str "(1,)") (g := .ref S2.length) (i := .ref (S2 ++ [CO.dct []]).length) d0 d1
    rw [q1, optW_some]
    refine k _ _ ?_ (F2.tr (.tr .app (.tr .app (.tr .app f3)))) (B3.up (by omega))
    rcases q2 with rfl | rfl | rfl | rfl | rfl | rfl | rfl
    · exact th_oth nofun (t := "NoneType") rfl (by decide +kernel)
    · exact th_oth nofun (t := "bool") rfl (by decide +kernel)
    · exact th_oth nofun (t := "int") rfl (by decide +kernel)
    · exact th_oth nofun (t := "str") rfl (by decide +kernel)
    · exact th_oth nofun (t := "str") rfl (by decide +kernel)
    · exact th_oth nofun (t := "dict") (by unfold tyn; dsimp only; rw [e1]) (by decide +kernel)
    · exact th_oth nofun (t := "dict") (by unfold tyn; dsimp only; rw [e2]) (by decide +kernel)
end Lk73
end
section
set_option Elab.async false
set_option linter.all false
set_option maxRecDepth 100000
set_option maxHeartbeats 4000000
namespace Lk73
open PySem L2 G
local macro_rules | `(tactic| walk_at "wp") => `(tactic| simp only [wp_sSeq, wp_sAsg, wp_sNil, wp_sExpr, wp_sRet, wp_sRetN, fnQ_ret, fnQ_nx, wp_sIf, wp_gN, wp_gSet, wp_eB, wp_eC, wp_eV, wp_add, wp_sub, wp_mul, wp_div, wp_mod, wp_pow, wp_cmp, wp_cV, vBk_bl, wp_cNot, wp_cAnd, wp_cOr, wp_eAnd, wp_eOr, wp_eNot, wp_eIf, wp_aNil, wp_aCons, wp_eTup, wp_eLst, wp_eCl, wp_int, wp_abs, wp_min, wp_max, wp_eNeg, wp_eIsN, wp_ret, wp_okf, wp_ixR, wp_ixT, optW_some, wo_vSet, wo_isLst, wo_vApp, wo_itR, wo_enR, mlst_lst, lstOf_lst, lstOf_rol, wp_eIsi, wp_eIsi2, wp_sFor, wp_iSeq, wp_iCl, wp_eApp, wp_eRev, wp_eSl, wp_oNone, wp_oSome, wp_slT, wp_revT, wp_dnew, wp_gT, wp_gsCons, wp_gsNil, wp_eqI, wp_sPar, wp_isB, wp_eDc, vBk_bl, wp_sStk, wp_lenT, wp_eChain, wp_tupleT, wp_tupleR, wp_listT, wp_listR, wp_addT, wp_R1,
  Bool.false_bne, Bool.true_bne, Bool.not_eq_true', decide_eq_false_iff_not, Bool.not_true, Bool.not_false, Bool.false_eq_true, Bool.true_eq_false, if_false, if_true, List.getElem?_cons_succ, List.getElem?_cons_zero, List.set_cons_succ, List.set_cons_zero, decide_eq_true_eq, List.length_cons, List.length_nil, Nat.zero_add, Nat.reduceAdd])
variable {S S' S1 S2 : CH} {Q : CV → CH → Prop} {h cb : Nat}
def b_tail : G.Env → M Fl :=
  (sSeq (sAsg (eCl vList (aCons (eV 2) (aNil))) (gN 10))
  (sSeq (sAsg (eCl m_is_kept_right (aCons (eV 10) (aCons (eV 4) (aCons (eV 3) (aCons (eV 9) (aNil)))))) (gN 11))
  (sSeq (sIf (cOr (cV (eB (vEq true) (eV 10) (eV 2))) (cOr (cNot (cV (eIsi "bool" (eV 11)))) (cV (eB (vEq true) (eV 11) (eCl m__law_is_enough (aCons (eV 2) (aCons (eV 6) (aCons (eV 9) (aNil))))))))) (sRet (eC (.bl false))) (sNil))
  (sIf (cV (eV 11)) (sFor (iSeq (eV 7)) (gN 12) (sIf (cV (eB (vIn true) (eV 12) (eV 9))) (sRet (eC (.bl false))) (sNil))) (sNil)))))
def law_rest : G.Env → M Fl :=
  (sSeq (sAsg (eB vAdd (eV 3) (eCl m__law_draw (aCons (eV 1) (aCons (eC (.int 3)) (aNil))))) (gN 3))
  (sSeq (sAsg (eCl m__law_open (aCons (eV 1) (aCons (eV 2) (aCons (eV 3) (aNil))))) (gN 4))
  (sSeq (sAsg (eCl m__law_needed (aCons (eV 2) (aCons (eV 4) (aNil)))) (gN 5))
  (sSeq (sAsg (eB vAdd (eCl vList (aCons (eV 4) (aNil))) (eLst (aCons (eV 3) (aCons (eB vAdd (eB vAdd (eV 3) (eC (.int 1))) (eCl m__law_draw (aCons (eV 1) (aCons (eC (.int 9)) (aNil))))) (aNil))))) (gN 6))
  (sSeq (sAsg (eCl m_needed (aCons (eCl vList (aCons (eV 2) (aNil))) (aCons (eV 4) (aCons (eV 3) (aNil))))) (gN 7))
  (sSeq (sIf (cOr (cNot (cV (eCl m__law_is_enough (aCons (eV 2) (aCons (eV 6) (aCons (eV 7) (aNil))))))) (cV (eB (vIsB true) (eCl m_is_kept_right (aCons (eCl vTuple (aCons (eV 2) (aNil))) (aCons (eV 4) (aCons (eV 3) (aCons (eV 7) (aNil)))))) (eC (.bl true))))) (sRet (eC (.bl false))) (sNil))
  (sSeq (sFor (iCl vR1 (aCons (eC (.int 8)) (aNil))) (gN 8) (sSeq (sAsg (eCl m__law_lot (aCons (eV 1) (aCons (eV 2) (aCons (eV 5) (aNil))))) (gN 9))
  (sSeq (sIf (cV (eB (vEq false) (eCl m__law_draw (aCons (eV 1) (aCons (eC (.int 3)) (aNil)))) (eC (.int 0)))) (sAsg (eCl m__law_no_lot (aCons (eV 1) (aCons (eV 9) (aNil)))) (gN 9)) (sNil))
  b_tail)))
  (sRet (eC (.bl true))))))))))
theorem wp_eqB {neg a b : Bool} : wp (vEq neg (.bl a) (.bl b)) S Q = Q (.bl (neg != decide (a = b))) S := by
  rw [wp_vEq, datK_bl, datK_bl, optW_some, optW_some]
  have : PyData.eqv (.bool a) (.bool b) = decide (a = b) := by cases a <;> cases b <;> rfl
  rw [this]
theorem thB_asked {vs : List Vn} {op : List Int} {last l2 : Int} {v : CV} (h : ∀ v ∈ vs, v.1 ≤ last) (ho : ∀ s ∈ op, s ≤ last) (hl : last < l2) : thB vs (askedP op last) v = thB vs (op ++ [last, l2]) v := by
  unfold thB
  split
  · split
    · exact enB_asked h ho hl
    · rfl
  · rfl
theorem kbb : kitB "bool" "bool" = some true := by decide +kernel
theorem tyn_bl {b : Bool} : tyn S (.bl b) = some "bool" := rfl
theorem tail_ok {m r : Nat} {vs : List Vn} {op : List Int} {last l2 : Int} {a x0 x1 x5 x8 : CV} {y10 y11 y12 : Option CV} (em : S[m]? = some (.lst (vs.map ver))) (er : S[r]? = some (.lst ((op ++ [last, l2]).map CV.int))) (F : Fit vs op last) (hn : vs.length ≤ 12) (ho : op.length ≤ 6) (hl : last < l2) (T : Thing S a) (h1 : ∀ x ∈ vs, 1 ≤ x.1) (hN : (NP vs op).length ≤ 1000) :
    wp (b_tail [some x0, some x1, some (.ref m), some (.int last), some (.tup (op.map CV.int)), some x5, some (.ref r), some (.tup ((NP vs op).map CV.int)), some x8, some a, y10, y11, y12]) S fun f S2 => S <+: S2 ∧ ∃ z10 z11 z12, f = .nx [some x0, some x1, some (.ref m), some (.int last), some (.tup (op.map CV.int)), some x5, some (.ref r), some (.tup ((NP vs op).map CV.int)), some x8, some a, z10, z11, z12] := by
  unfold b_tail
  walk_at "wp"
  rw [em, lstOf_lst, optW_some]
  have k1 : S <+: S ++ [CO.lst (vs.map ver)] := List.prefix_append _ _
  have lo : ∀ s ∈ op, s ≤ last := fun s hs => (F.lot.2 s hs).2
  refine is_kept_right_ok (.lst new_get) F (by omega) (by omega) (T.pre k1) fun S2 k2 => ?_
  have kk2 := k1.trans k2
  rw [wp_eqVs (pre_get k2 new_get) (pre_get kk2 em), vBk_bl, if_neg (by decide), tyn_bl, optW_some, kbb, optW_some, if_neg (by decide)]
  refine is_enough_ok (.lst (pre_get kk2 em)) F.d h1 (by omega) (T.pre kk2) (pre_get kk2 er) fun S3 k3 => ?_
  have kk3 := kk2.trans k3
  rw [wp_eqB, vBk_bl, ← thB_asked F.le lo hl, decide_eq_true rfl, if_neg (by decide)]
  cases ht : thB vs (askedP op last) a with
  | false =>
    rw [vBk_bl, if_neg (by decide)]
    exact ⟨kk3, _, _, _, rfl⟩
  | true =>
    rw [vBk_bl, if_pos rfl]
    obtain ⟨ts, rfl, en⟩ : ∃ ts : List Int, a = .tup (ts.map CV.int) ∧ enB vs (askedP op last) ts = true := by
      unfold thB at ht
      split at ht
      · rename_i xs
        split at ht
        · rename_i ts e
          exact ⟨ts, by rw [mapO_ints e], ht⟩
        · cases ht
      · cases ht
    rw [wp_itT]
    have q := tupci (S := S3) (L := NP vs op) (c := CV.int)
    rw [(q S3 (List.prefix_refl _)).1, optW_some]
    refine wp_forGo (I := fun i env S' => S' = S3 ∧ ∃ z, env = [some x0, some x1, some (.ref m), some (.int last), some (.tup (op.map CV.int)), some x5, some (.ref r), some (.tup ((NP vs op).map CV.int)), some x8, some (.tup (ts.map CV.int)), some (.ref S.length), some (.bl true), z]) ?_ ?_ _ 0 _ _ (Nat.zero_add _) ⟨rfl, _, rfl⟩
    · rintro i env S' hi ⟨rfl, z, rfl⟩
      refine ⟨_, (q S' (List.prefix_refl _)).2 i hi, ?_⟩
      walk_at "wp"
      rw [wp_inI (ns := ts) .tup, vBk_bl, Bool.true_bne, decide_eq_true (enough_has F.d F.le lo en _ (List.getElem_mem hi)), if_neg (by decide)]
      exact ⟨rfl, _, rfl⟩
    · rintro env S' ⟨rfl, z, rfl⟩
      exact ⟨(q S' (List.prefix_refl _)).1, kk3, _, _, _, rfl⟩
theorem law_rest_ok {n m : Nat} {vs : List Vn} {l0 : Int} {a : CV} (B1 : BG S1 h cb n) (hn : n < 500) (hmh : m ≠ h) (e1 : S1[m]? = some (.lst (vs.map ver))) (V : Vs vs) (hvn : vs.length ≤ 12) (p0 : 0 ≤ l0) (p1 : l0 ≤ 400000000000000040) (hl : ∀ x ∈ vs, x.1 ≤ l0) :
    wp (law_rest [some a, some (.ref h), some (.ref m), some (.int l0), none, none, none, none, none, none, none, none, none]) S1 (fnQ fun v S' => v = .bl true) := by
  unfold law_rest
  walk_at "wp"
  refine draw_bg B1 (by omega) (by decide) (by decide) fun d S3 d0 d1 f3 B3 => ?_
  walk_at "wp"
  have hB := B1.lt
  have e3 := f3.2 m _ hmh e1
  generalize hlast : l0 + d = last
  have g0 : 0 ≤ last := by omega
  have g1 : last ≤ 400000000000000050 := by omega
  have gl : ∀ x ∈ vs, x.1 ≤ last := fun x hx => by have := hl x hx; omega
  have h1 : ∀ x ∈ vs, 1 ≤ x.1 := fun x hx => (V.ok x hx).1.1
  refine open_ok B3 (by omega) hmh e3 V g0 (by omega) fun op S4 lot lo f4 B4 => ?_
  have e4 := f4.2 m _ hmh e3
  refine law_needed_ok (.lst e4) V.d (by omega) (by omega) fun S5 k5 ed => ?_
  have e5 := pre_get k5 e4
  have hd : S4.length ≠ h := by
    have := B4.lt
    omega
  walk_at "wp"
  refine draw_bg (B4.pre k5).app (by omega) (by decide) (by decide) fun d2 S6 t0 t1 f6 B6 => ?_
  have F : Fit vs op last := ⟨V.d, V.ok, gl, g0, by omega, lot⟩
  have los : ∀ s ∈ op, s ≤ last := fun s hs => (lot.2 s hs).2
  have hop : S6[S5.length]? = some (.lst (op.map CV.int)) := f6.2 S5.length _ (by have := B4.lt; have := k5.length_le; omega) new_get
  walk_at "wp"
  refine ⟨by decide, ?_⟩
  rw [show [CV.int last, CV.int (last + 1 + d2)] = [last, last + 1 + d2].map CV.int from rfl, wp_addL (pre_get (List.prefix_append _ _) hop) new_get (by simp; have := small_line (n := 10) (by omega); omega), ← List.map_append]
  generalize hl2 : last + 1 + d2 = l2
  have hlt : last < l2 := by omega
  have f6' : Fr h S4 S6 := (Fr.pre k5).tr (.tr .app f6)
  have e6 := f6'.2 m _ hmh e4
  have ed6 : S6[S4.length]? = some (.lst ((NP vs op).map CV.int)) := f6.2 S4.length _ hd (pre_get (List.prefix_append _ _) ed)
  obtain ⟨S7, hS7⟩ : ∃ S7, S6 ++ [CO.lst ([last, l2].map CV.int)] ++ [CO.lst ((op ++ [last, l2]).map CV.int)] = S7 := ⟨_, rfl⟩
  have k7 : S6 <+: S7 := by
    rw [← hS7]
    exact (List.prefix_append _ _).trans (List.prefix_append _ _)
  have er7 : S7[(S6 ++ [CO.lst ([last, l2].map CV.int)]).length]? = some (.lst ((op ++ [last, l2]).map CV.int)) := by
    rw [← hS7]
    exact new_get
  have B7 : BG S7 h cb (n + 40) := (B6.pre k7).up (by omega)
  rw [hS7]
  have hrr : (S6 ++ [CO.lst ([last, l2].map CV.int)]).length ≠ h := by
    have := B6.lt
    simp
    omega
  generalize (S6 ++ [CO.lst ([last, l2].map CV.int)]).length = r at er7 hrr
  clear hS7
  have e7 := pre_get k7 e6
  have ed7 := pre_get k7 ed6
  rw [e7, lstOf_lst, optW_some]
  have lN : (NP vs op).length ≤ vs.length := by
    have := fold_len (c := isS vs op) vs.reverse []
    rw [List.length_reverse] at this
    unfold NP
    simpa using this
  refine needed_ok (.lst new_get) F (by omega) (by omega) fun S8 k8 => ?_
  have k78 : S7 <+: S8 := (List.prefix_append _ _).trans k8
  have e8 := pre_get k78 e7
  have thN : thB vs (askedP op last) (.tup ((NP vs op).map CV.int)) = true := by
    unfold thB
    dsimp only
    rw [mapO_of_ints]
    exact told_enough V.d gl los
  refine is_enough_ok (.lst e8) V.d h1 (by omega) (th_ints (by omega)) (pre_get k78 er7) fun S9 k9 => ?_
  rw [← thB_asked gl los hlt, thN, vBk_bl, if_neg (by decide)]
  have e9 := pre_get k9 e8
  rw [e9, lstOf_lst, optW_some]
  refine is_kept_right_ok .tup F (by omega) (by omega) (th_ints (by omega)) fun SA kA => ?_
  rw [thN, wp_isB, vBk_bl, if_neg (by decide)]
  refine ⟨by decide, ?_⟩
  have k7A : S7 <+: SA := (k78.trans k9).trans kA
  have BA := B7.pre k7A
  have eA := pre_get k7A e7
  have edA := pre_get k7A ed7
  have erA := pre_get k7A er7
  clear k7A kA k9 k8 k78 e8 e9
  rw [show CI.len SA (.rng 0 (8 : Int).toNat) = some 8 from rfl, optW_some]
  refine wp_forGo (I := fun i env S' => Fr h SA S' ∧ BG S' h cb (n + 40 + 60 * i) ∧ ∃ z8 z9 z10 z11 z12, env = [some a, some (.ref h), some (.ref m), some (.int last), some (.tup (op.map CV.int)), some (.ref S4.length), some (.ref r), some (.tup ((NP vs op).map CV.int)), z8, z9, z10, z11, z12]) ?_ ?_ _ 0 _ _ (Nat.zero_add _) ⟨.rfl', BA, _, _, _, _, _, rfl⟩
  · rintro i env S' hi ⟨fi, Bi, z8, z9, z10, z11, z12, rfl⟩
    refine ⟨.int i, rng_get (j := 8) hi, ?_⟩
    have ei := fi.2 m _ hmh eA
    have edi := fi.2 _ _ hd edA
    walk_at "wp"
    refine lot_ok Bi (by omega) hvn hmh hd ei edi (by omega) fun ts S2 hts f2 B2 => ?_
    refine draw_bg B2 (by omega) (by decide) (by decide) fun d5 S3 _ _ f5 B5 => ?_
    walk_at "wp"
    have last' : ∀ (v : CV) (S' : CH), Thing S' v → Fr h SA S' → BG S' h cb (n + 40 + 60 * (i + 1)) → wp (b_tail [some a, some (.ref h), some (.ref m), some (.int last), some (.tup (op.map CV.int)), some (.ref S4.length), some (.ref r), some (.tup ((NP vs op).map CV.int)), some (.int i), some v, z10, z11, z12]) S' fun f S2 => match f with
      | .nx e => Fr h SA S2 ∧ BG S2 h cb (n + 40 + 60 * (i + 1)) ∧ ∃ z8 z9 z10 z11 z12, e = [some a, some (.ref h), some (.ref m), some (.int last), some (.tup (op.map CV.int)), some (.ref S4.length), some (.ref r), some (.tup ((NP vs op).map CV.int)), z8, z9, z10, z11, z12]
      | .ct e => Fr h SA S2 ∧ BG S2 h cb (n + 40 + 60 * (i + 1)) ∧ ∃ z8 z9 z10 z11 z12, e = [some a, some (.ref h), some (.ref m), some (.int last), some (.tup (op.map CV.int)), some (.ref S4.length), some (.ref r), some (.tup ((NP vs op).map CV.int)), z8, z9, z10, z11, z12]
      | .brk e => False
      | .ret v => False := fun v S' T f B => by
      refine wp_mono (tail_ok (f.2 m _ hmh eA) (f.2 r _ hrr erA) F hvn lo hlt T h1 (by omega)) fun fl S2 ⟨k2, w1, w2, w3, e⟩ => ?_
      subst e
      exact ⟨f.tr (.pre k2), B.pre k2, _, _, _, _, _, rfl⟩
    have f5' : Fr h SA S3 := fi.tr (f2.tr f5)
    split
    · refine no_lot_ok B5 (by omega) hts fun v S6 T f8 B8 => ?_
      refine wp_mono (last' v S6 T (f5'.tr f8) (B8.up (by omega))) fun f S2 q => ?_
      cases f with
      | nx e => exact q
      | ct e => exact q
      | brk e => exact q.elim
      | ret v => exact q.elim
    · refine wp_mono (last' _ S3 (th_ints (by omega)) f5' (B5.up (by omega))) fun f S2 q => ?_
      cases f with
      | nx e => exact q
      | ct e => exact q
      | brk e => exact q.elim
      | ret v => exact q.elim
  · rintro env S' ⟨fi, Bi, z8, z9, z10, z11, z12, rfl⟩
    exact ⟨rfl, trivial⟩
theorem law_true (ns : List Int) (h : ns.length ≤ 63) : ∃ S', m_law [.ref 0] [.rol (ns.map CV.int)] = .ok (.bl true) S' := by
  have hh : wp (m_law [.ref 0]) [.rol (ns.map CV.int)] fun v S' => v = .bl true := by
    refine wp_fn rfl ?_
    show wp ((sSeq (sAsg (eCl m__law_bag (aCons (eV 0) (aNil))) (gN 1))
  (sSeq (sAsg (eCl m__law_versions (aCons (eV 1) (aNil))) (gN 2))
  (sSeq (sAsg (eC (.int 0)) (gN 3))
  (sSeq (sIf (cV (eB vGt (eCl vLen (aCons (eV 2) (aNil))) (eC (.int 0)))) (sAsg (eB vIx (eB vIx (eV 2) (eC (.int 0))) (eC (.int 0))) (gN 3)) (sNil))
  law_rest)))) [some (.ref 0), none, none, none, none, none, none, none, none, none, none, none, none]) _ _
    walk_at "wp"
    refine bag_ok rfl h fun h cb S0 _ _ B0 => ?_
    refine versions_ok B0 (by decide) fun vs m S1 V hvn f1 lm e1 B1 => ?_
    have hmh : m ≠ h := by
      have := B0.lt
      omega
    rw [wp_lenR (xs := vs.map ver) (by rw [e1]; rfl)]
    walk_at "wp"
    rw [e1, lstOf_lst, optW_some, List.length_map]
    cases vs with
    | nil =>
      rw [if_neg (by decide)]
      exact law_rest_ok B1 (by omega) hmh e1 V hvn (by decide) (by decide) nofun
    | cons x r =>
      rw [if_pos (by simp)]
      rw [show atI ((x :: r).map ver) 0 = some (.tup [.int x.1, mk x.2]) from atI_nat (j := 0) rfl]
      simp only [optW_some, wp_ixT, at2_0]
      have hx := V.ok x (by simp)
      exact law_rest_ok B1 (by omega) hmh e1 V hvn (by have := hx.1.1; omega) (V.le x (by simp)) fun y hy => by
        rcases List.mem_cons.mp hy with rfl | hy
        · exact Int.le_refl _
        · exact Int.le_of_lt ((List.pairwise_cons.mp V.d).1 y hy)
  obtain ⟨v, S', e, rfl⟩ := hh
  exact ⟨S', e⟩
end Lk73
end
section
set_option Elab.async false
set_option linter.all false
set_option maxRecDepth 100000
set_option maxHeartbeats 4000000
namespace Lk73
open PySem L2 G
def top (i : Nat) : Stmt := PySem.Challenge.pw_wholecommits_k73_whole_lots_that_are_eno.main.body.getD i (.Pass ⟨0, 0, 0, 0⟩)
abbrev s__law_bag : Stmt := top 26
abbrev N__law_bag : List Str := ["_law_script", "_law_cell"]
abbrev P__law_bag : List Str := ["_law_script"]
theorem sc__law_bag : FnScope N__law_bag P__law_bag (defScope s__law_bag) := ⟨rfl, rfl, rfl, by decide +kernel, rfl, by decide +kernel, by decide +kernel⟩
abbrev s__law_mixed : Stmt := top 25
abbrev N__law_mixed : List Str := ["_law_cell", "_law_turn", "_law_number"]
abbrev P__law_mixed : List Str := ["_law_cell", "_law_turn"]
theorem sc__law_mixed : FnScope N__law_mixed P__law_mixed (defScope s__law_mixed) := ⟨rfl, rfl, rfl, by decide +kernel, rfl, by decide +kernel, by decide +kernel⟩
abbrev s__law_draw : Stmt := top 27
abbrev N__law_draw : List Str := ["_law_bag_here", "_law_many", "_law_found", "_law_cells", "_law_at", "_law_cell"]
abbrev P__law_draw : List Str := ["_law_bag_here", "_law_many"]
theorem sc__law_draw : FnScope N__law_draw P__law_draw (defScope s__law_draw) := ⟨rfl, rfl, rfl, by decide +kernel, rfl, by decide +kernel, by decide +kernel⟩
abbrev s__law_versions : Stmt := top 28
abbrev N__law_versions : List Str := ["_law_bag_here", "_law_found", "_law_commit", "_law_k", "_law_worth"]
abbrev P__law_versions : List Str := ["_law_bag_here"]
theorem sc__law_versions : FnScope N__law_versions P__law_versions (defScope s__law_versions) := ⟨rfl, rfl, rfl, by decide +kernel, rfl, by decide +kernel, by decide +kernel⟩
abbrev s__law_open : Stmt := top 29
abbrev N__law_open : List Str := ["_law_bag_here", "_law_versions_here", "_law_last", "_law_found", "_law_k", "_law_number"]
abbrev P__law_open : List Str := ["_law_bag_here", "_law_versions_here", "_law_last"]
theorem sc__law_open : FnScope N__law_open P__law_open (defScope s__law_open) := ⟨rfl, rfl, rfl, by decide +kernel, rfl, by decide +kernel, by decide +kernel⟩
abbrev s__law_needed : Stmt := top 30
abbrev N__law_needed : List Str := ["_law_versions_here", "_law_open_lot", "_law_found", "_law_back", "_law_at", "_law_is_seen", "_law_snapshot"]
abbrev P__law_needed : List Str := ["_law_versions_here", "_law_open_lot"]
theorem sc__law_needed : FnScope N__law_needed P__law_needed (defScope s__law_needed) := ⟨rfl, rfl, rfl, by decide +kernel, rfl, by decide +kernel, by decide +kernel⟩
abbrev s_is_pair : Stmt := top 4
abbrev N_is_pair : List Str := ["thing"]
abbrev P_is_pair : List Str := ["thing"]
theorem sc_is_pair : FnScope N_is_pair P_is_pair (defScope s_is_pair) := ⟨rfl, rfl, rfl, by decide +kernel, rfl, by decide +kernel, by decide +kernel⟩
abbrev s_is_integer : Stmt := top 2
abbrev N_is_integer : List Str := ["thing"]
abbrev P_is_integer : List Str := ["thing"]
theorem sc_is_integer : FnScope N_is_integer P_is_integer (defScope s_is_integer) := ⟨rfl, rfl, rfl, by decide +kernel, rfl, by decide +kernel, by decide +kernel⟩
abbrev s_is_within : Stmt := top 3
abbrev N_is_within : List Str := ["thing", "least", "most"]
abbrev P_is_within : List Str := ["thing", "least", "most"]
theorem sc_is_within : FnScope N_is_within P_is_within (defScope s_is_within) := ⟨rfl, rfl, rfl, by decide +kernel, rfl, by decide +kernel, by decide +kernel⟩
abbrev s_is_commit : Stmt := top 8
abbrev N_is_commit : List Str := ["thing"]
abbrev P_is_commit : List Str := ["thing"]
theorem sc_is_commit : FnScope N_is_commit P_is_commit (defScope s_is_commit) := ⟨rfl, rfl, rfl, by decide +kernel, rfl, by decide +kernel, by decide +kernel⟩
abbrev s_is_worth : Stmt := top 6
abbrev N_is_worth : List Str := ["thing"]
abbrev P_is_worth : List Str := ["thing"]
theorem sc_is_worth : FnScope N_is_worth P_is_worth (defScope s_is_worth) := ⟨rfl, rfl, rfl, by decide +kernel, rfl, by decide +kernel, by decide +kernel⟩
abbrev s_is_mark : Stmt := top 7
abbrev N_is_mark : List Str := ["thing"]
abbrev P_is_mark : List Str := ["thing"]
theorem sc_is_mark : FnScope N_is_mark P_is_mark (defScope s_is_mark) := ⟨rfl, rfl, rfl, by decide +kernel, rfl, by decide +kernel, by decide +kernel⟩
abbrev s_check_versions : Stmt := top 15
abbrev N_check_versions : List Str := ["versions", "index", "version"]
abbrev P_check_versions : List Str := ["versions"]
theorem sc_check_versions : FnScope N_check_versions P_check_versions (defScope s_check_versions) := ⟨rfl, rfl, rfl, by decide +kernel, rfl, by decide +kernel, by decide +kernel⟩
abbrev s_check_last : Stmt := top 16
abbrev N_check_last : List Str := ["last", "least"]
abbrev P_check_last : List Str := ["last", "least"]
theorem sc_check_last : FnScope N_check_last P_check_last (defScope s_check_last) := ⟨rfl, rfl, rfl, by decide +kernel, rfl, by decide +kernel, by decide +kernel⟩
abbrev s_is_lot : Stmt := top 5
abbrev N_is_lot : List Str := ["thing", "many", "last", "number"]
abbrev P_is_lot : List Str := ["thing", "many"]
theorem sc_is_lot : FnScope N_is_lot P_is_lot (defScope s_is_lot) := ⟨rfl, rfl, rfl, by decide +kernel, rfl, by decide +kernel, by decide +kernel⟩
abbrev s_check_open : Stmt := top 17
abbrev N_check_open : List Str := ["open_lot", "last"]
abbrev P_check_open : List Str := ["open_lot", "last"]
theorem sc_check_open : FnScope N_check_open P_check_open (defScope s_check_open) := ⟨rfl, rfl, rfl, by decide +kernel, rfl, by decide +kernel, by decide +kernel⟩
abbrev s_check_asked : Stmt := top 18
abbrev N_check_asked : List Str := ["versions", "open_lot", "last"]
abbrev P_check_asked : List Str := ["versions", "open_lot", "last"]
theorem sc_check_asked : FnScope N_check_asked P_check_asked (defScope s_check_asked) := ⟨rfl, rfl, rfl, by decide +kernel, rfl, by decide +kernel, by decide +kernel⟩
abbrev s_asked_of : Stmt := top 20
abbrev N_asked_of : List Str := ["open_lot", "last", "snapshot"]
abbrev P_asked_of : List Str := ["open_lot", "last"]
theorem sc_asked_of : FnScope N_asked_of P_asked_of (defScope s_asked_of) := ⟨rfl, rfl, rfl, by decide +kernel, rfl, by decide +kernel, by decide +kernel⟩
abbrev s_seen_of : Stmt := top 19
abbrev N_seen_of : List Str := ["versions", "snapshot", "version"]
abbrev P_seen_of : List Str := ["versions", "snapshot"]
theorem sc_seen_of : FnScope N_seen_of P_seen_of (defScope s_seen_of) := ⟨rfl, rfl, rfl, by decide +kernel, rfl, by decide +kernel, by decide +kernel⟩
abbrev s_needed_of : Stmt := top 21
abbrev N_needed_of : List Str := ["versions", "open_lot", "last", "seen", "found", "version", "snapshot"]
abbrev P_needed_of : List Str := ["versions", "open_lot", "last"]
theorem sc_needed_of : FnScope N_needed_of P_needed_of (defScope s_needed_of) := ⟨rfl, rfl, rfl, by decide +kernel, rfl, by decide +kernel, by decide +kernel⟩
abbrev s_needed : Stmt := top 22
abbrev N_needed : List Str := ["versions", "open_lot", "last"]
abbrev P_needed : List Str := ["versions", "open_lot", "last"]
theorem sc_needed : FnScope N_needed P_needed (defScope s_needed) := ⟨rfl, rfl, rfl, by decide +kernel, rfl, by decide +kernel, by decide +kernel⟩
abbrev s__law_is_lot : Stmt := top 34
abbrev N__law_is_lot : List Str := ["_law_thing", "_law_commits", "_law_ahead", "_law_one"]
abbrev P__law_is_lot : List Str := ["_law_thing", "_law_commits"]
theorem sc__law_is_lot : FnScope N__law_is_lot P__law_is_lot (defScope s__law_is_lot) := ⟨rfl, rfl, rfl, by decide +kernel, rfl, by decide +kernel, by decide +kernel⟩
abbrev s__law_seen : Stmt := top 35
abbrev N__law_seen : List Str := ["_law_versions_here", "_law_snapshot", "_law_pair"]
abbrev P__law_seen : List Str := ["_law_versions_here", "_law_snapshot"]
theorem sc__law_seen : FnScope N__law_seen P__law_seen (defScope s__law_seen) := ⟨rfl, rfl, rfl, by decide +kernel, rfl, by decide +kernel, by decide +kernel⟩
abbrev s__law_is_enough : Stmt := top 36
abbrev N__law_is_enough : List Str := ["_law_versions_here", "_law_asked", "_law_thing", "_law_kept", "_law_snapshot", "_law_whole", "_law_part", "_law_pair"]
abbrev P__law_is_enough : List Str := ["_law_versions_here", "_law_asked", "_law_thing"]
theorem sc__law_is_enough : FnScope N__law_is_enough P__law_is_enough (defScope s__law_is_enough) := ⟨rfl, rfl, rfl, by decide +kernel, rfl, by decide +kernel, by decide +kernel⟩
abbrev s_is_kept_right : Stmt := top 23
abbrev N_is_kept_right : List Str := ["versions", "open_lot", "last", "thing", "commits", "kept", "snapshot", "elder", "newer", "version", "commit"]
abbrev P_is_kept_right : List Str := ["versions", "open_lot", "last", "thing"]
theorem sc_is_kept_right : FnScope N_is_kept_right P_is_kept_right (defScope s_is_kept_right) := ⟨rfl, rfl, rfl, by decide +kernel, rfl, by decide +kernel, by decide +kernel⟩
abbrev s__law_some : Stmt := top 31
abbrev N__law_some : List Str := ["_law_bag_here", "_law_row", "_law_share", "_law_found", "_law_one"]
abbrev P__law_some : List Str := ["_law_bag_here", "_law_row", "_law_share"]
theorem sc__law_some : FnScope N__law_some P__law_some (defScope s__law_some) := ⟨rfl, rfl, rfl, by decide +kernel, rfl, by decide +kernel, by decide +kernel⟩
abbrev s__law_lot : Stmt := top 32
abbrev N__law_lot : List Str := ["_law_bag_here", "_law_versions_here", "_law_due", "_law_kind", "_law_commits", "_law_one", "_law_gone", "_law_pair", "_law_commit"]
abbrev P__law_lot : List Str := ["_law_bag_here", "_law_versions_here", "_law_due"]
theorem sc__law_lot : FnScope N__law_lot P__law_lot (defScope s__law_lot) := ⟨rfl, rfl, rfl, by decide +kernel, rfl, by decide +kernel, by decide +kernel⟩
abbrev s__law_no_lot : Stmt := top 33
abbrev N__law_no_lot : List Str := ["_law_bag_here", "_law_lot_here", "_law_kind", "_law_at", "_law_strange"]
abbrev P__law_no_lot : List Str := ["_law_bag_here", "_law_lot_here"]
theorem sc__law_no_lot : FnScope N__law_no_lot P__law_no_lot (defScope s__law_no_lot) := ⟨rfl, rfl, rfl, by decide +kernel, rfl, by decide +kernel, by decide +kernel⟩
abbrev s_law : Stmt := top 37
abbrev N_law : List Str := ["_law_script", "_law_bag_here", "_law_versions_here", "_law_last", "_law_open_lot", "_law_due", "_law_asked", "_law_told", "_law_k", "_law_thing", "_law_passed", "_law_answer", "_law_commit"]
abbrev P_law : List Str := ["_law_script"]
theorem sc_law : FnScope N_law P_law (defScope s_law) := ⟨rfl, rfl, rfl, by decide +kernel, rfl, by decide +kernel, by decide +kernel⟩
structure Txt (K : PySem.W.Frag) (mg : Str → Option Value) where
  f__law_bag : Addr
  d__law_bag : FuncData
  F__law_bag : Fun K "_law_bag" "_law_bag" s__law_bag f__law_bag d__law_bag
  B__law_bag : Binds K d__law_bag P__law_bag []
  g__law_bag : mg "_law_bag" = some (.ref f__law_bag)
  f__law_mixed : Addr
  d__law_mixed : FuncData
  F__law_mixed : Fun K "_law_mixed" "_law_mixed" s__law_mixed f__law_mixed d__law_mixed
  B__law_mixed : Binds K d__law_mixed P__law_mixed []
  g__law_mixed : mg "_law_mixed" = some (.ref f__law_mixed)
  f__law_draw : Addr
  d__law_draw : FuncData
  F__law_draw : Fun K "_law_draw" "_law_draw" s__law_draw f__law_draw d__law_draw
  B__law_draw : Binds K d__law_draw P__law_draw []
  g__law_draw : mg "_law_draw" = some (.ref f__law_draw)
  f__law_versions : Addr
  d__law_versions : FuncData
  F__law_versions : Fun K "_law_versions" "_law_versions" s__law_versions f__law_versions d__law_versions
  B__law_versions : Binds K d__law_versions P__law_versions []
  g__law_versions : mg "_law_versions" = some (.ref f__law_versions)
  f__law_open : Addr
  d__law_open : FuncData
  F__law_open : Fun K "_law_open" "_law_open" s__law_open f__law_open d__law_open
  B__law_open : Binds K d__law_open P__law_open []
  g__law_open : mg "_law_open" = some (.ref f__law_open)
  f__law_needed : Addr
  d__law_needed : FuncData
  F__law_needed : Fun K "_law_needed" "_law_needed" s__law_needed f__law_needed d__law_needed
  B__law_needed : Binds K d__law_needed P__law_needed []
  g__law_needed : mg "_law_needed" = some (.ref f__law_needed)
  f_is_pair : Addr
  d_is_pair : FuncData
  F_is_pair : Fun K "is_pair" "is_pair" s_is_pair f_is_pair d_is_pair
  B_is_pair : Binds K d_is_pair P_is_pair []
  g_is_pair : mg "is_pair" = some (.ref f_is_pair)
  f_is_integer : Addr
  d_is_integer : FuncData
  F_is_integer : Fun K "is_integer" "is_integer" s_is_integer f_is_integer d_is_integer
  B_is_integer : Binds K d_is_integer P_is_integer []
  g_is_integer : mg "is_integer" = some (.ref f_is_integer)
  f_is_within : Addr
  d_is_within : FuncData
  F_is_within : Fun K "is_within" "is_within" s_is_within f_is_within d_is_within
  B_is_within : Binds K d_is_within P_is_within []
  g_is_within : mg "is_within" = some (.ref f_is_within)
  f_is_commit : Addr
  d_is_commit : FuncData
  F_is_commit : Fun K "is_commit" "is_commit" s_is_commit f_is_commit d_is_commit
  B_is_commit : Binds K d_is_commit P_is_commit []
  g_is_commit : mg "is_commit" = some (.ref f_is_commit)
  f_is_worth : Addr
  d_is_worth : FuncData
  F_is_worth : Fun K "is_worth" "is_worth" s_is_worth f_is_worth d_is_worth
  B_is_worth : Binds K d_is_worth P_is_worth []
  g_is_worth : mg "is_worth" = some (.ref f_is_worth)
  f_is_mark : Addr
  d_is_mark : FuncData
  F_is_mark : Fun K "is_mark" "is_mark" s_is_mark f_is_mark d_is_mark
  B_is_mark : Binds K d_is_mark P_is_mark []
  g_is_mark : mg "is_mark" = some (.ref f_is_mark)
  f_check_versions : Addr
  d_check_versions : FuncData
  F_check_versions : Fun K "check_versions" "check_versions" s_check_versions f_check_versions d_check_versions
  B_check_versions : Binds K d_check_versions P_check_versions []
  g_check_versions : mg "check_versions" = some (.ref f_check_versions)
  f_check_last : Addr
  d_check_last : FuncData
  F_check_last : Fun K "check_last" "check_last" s_check_last f_check_last d_check_last
  B_check_last : Binds K d_check_last P_check_last []
  g_check_last : mg "check_last" = some (.ref f_check_last)
  f_is_lot : Addr
  d_is_lot : FuncData
  F_is_lot : Fun K "is_lot" "is_lot" s_is_lot f_is_lot d_is_lot
  B_is_lot : Binds K d_is_lot P_is_lot []
  g_is_lot : mg "is_lot" = some (.ref f_is_lot)
  f_check_open : Addr
  d_check_open : FuncData
  F_check_open : Fun K "check_open" "check_open" s_check_open f_check_open d_check_open
  B_check_open : Binds K d_check_open P_check_open []
  g_check_open : mg "check_open" = some (.ref f_check_open)
  f_check_asked : Addr
  d_check_asked : FuncData
  F_check_asked : Fun K "check_asked" "check_asked" s_check_asked f_check_asked d_check_asked
  B_check_asked : Binds K d_check_asked P_check_asked []
  g_check_asked : mg "check_asked" = some (.ref f_check_asked)
  f_asked_of : Addr
  d_asked_of : FuncData
  F_asked_of : Fun K "asked_of" "asked_of" s_asked_of f_asked_of d_asked_of
  B_asked_of : Binds K d_asked_of P_asked_of []
  g_asked_of : mg "asked_of" = some (.ref f_asked_of)
  f_seen_of : Addr
  d_seen_of : FuncData
  F_seen_of : Fun K "seen_of" "seen_of" s_seen_of f_seen_of d_seen_of
  B_seen_of : Binds K d_seen_of P_seen_of []
  g_seen_of : mg "seen_of" = some (.ref f_seen_of)
  f_needed_of : Addr
  d_needed_of : FuncData
  F_needed_of : Fun K "needed_of" "needed_of" s_needed_of f_needed_of d_needed_of
  B_needed_of : Binds K d_needed_of P_needed_of []
  g_needed_of : mg "needed_of" = some (.ref f_needed_of)
  f_needed : Addr
  d_needed : FuncData
  F_needed : Fun K "needed" "needed" s_needed f_needed d_needed
  B_needed : Binds K d_needed P_needed []
  g_needed : mg "needed" = some (.ref f_needed)
  f__law_is_lot : Addr
  d__law_is_lot : FuncData
  F__law_is_lot : Fun K "_law_is_lot" "_law_is_lot" s__law_is_lot f__law_is_lot d__law_is_lot
  B__law_is_lot : Binds K d__law_is_lot P__law_is_lot []
  g__law_is_lot : mg "_law_is_lot" = some (.ref f__law_is_lot)
  f__law_seen : Addr
  d__law_seen : FuncData
  F__law_seen : Fun K "_law_seen" "_law_seen" s__law_seen f__law_seen d__law_seen
  B__law_seen : Binds K d__law_seen P__law_seen []
  g__law_seen : mg "_law_seen" = some (.ref f__law_seen)
  f__law_is_enough : Addr
  d__law_is_enough : FuncData
  F__law_is_enough : Fun K "_law_is_enough" "_law_is_enough" s__law_is_enough f__law_is_enough d__law_is_enough
  B__law_is_enough : Binds K d__law_is_enough P__law_is_enough []
  g__law_is_enough : mg "_law_is_enough" = some (.ref f__law_is_enough)
  f_is_kept_right : Addr
  d_is_kept_right : FuncData
  F_is_kept_right : Fun K "is_kept_right" "is_kept_right" s_is_kept_right f_is_kept_right d_is_kept_right
  B_is_kept_right : Binds K d_is_kept_right P_is_kept_right []
  g_is_kept_right : mg "is_kept_right" = some (.ref f_is_kept_right)
  f__law_some : Addr
  d__law_some : FuncData
  F__law_some : Fun K "_law_some" "_law_some" s__law_some f__law_some d__law_some
  B__law_some : Binds K d__law_some P__law_some []
  g__law_some : mg "_law_some" = some (.ref f__law_some)
  f__law_lot : Addr
  d__law_lot : FuncData
  F__law_lot : Fun K "_law_lot" "_law_lot" s__law_lot f__law_lot d__law_lot
  B__law_lot : Binds K d__law_lot P__law_lot []
  g__law_lot : mg "_law_lot" = some (.ref f__law_lot)
  f__law_no_lot : Addr
  d__law_no_lot : FuncData
  F__law_no_lot : Fun K "_law_no_lot" "_law_no_lot" s__law_no_lot f__law_no_lot d__law_no_lot
  B__law_no_lot : Binds K d__law_no_lot P__law_no_lot []
  g__law_no_lot : mg "_law_no_lot" = some (.ref f__law_no_lot)
  f_law : Addr
  d_law : FuncData
  F_law : Fun K "law" "law" s_law f_law d_law
  B_law : Binds K d_law P_law []
  g_law : mg "law" = some (.ref f_law)
  t_MOST_WORTH : Tok
  c_MOST_WORTH : mg "MOST_WORTH" = some (.int (1000000000000000000) t_MOST_WORTH)
  z_abs : mg "abs" = none
  z_all : mg "all" = none
  z_bool : mg "bool" = none
  z_enumerate : mg "enumerate" = none
  z_int : mg "int" = none
  z_isinstance : mg "isinstance" = none
  z_len : mg "len" = none
  z_list : mg "list" = none
  z_max : mg "max" = none
  z_min : mg "min" = none
  z_range : mg "range" = none
  z_sorted : mg "sorted" = none
  z_tuple : mg "tuple" = none
section
variable {P : Program} {w : World} {mg : Str → Option Value} {base : Heap} {C : Cl}
theorem ok__law_bag (T : Txt C.K mg) : FnOk P w C.K mg base (L2.CX P w) 2 T.f__law_bag T.d__law_bag P__law_bag (spM C 1 m__law_bag) :=
  fnok T.F__law_bag sc__law_bag fun cdv A outer s H E hr => by
    have hu := hr.units
    have hu65 := hu65_of hr
    exact (xone (xret (glst (acons (glc (own := [("_law_cell", 1)]) rfl sc__law_bag.nd (gseq rfl (gsl rfl (gv (pv 0)) onone (osome gint))) (blkOk_by (N := N__law_bag) (sc := defScope s__law_bag) (by decide +kernel)) rfl (fun _ _ _ _ _ => (tgname (pg_name (i := 1) sc__law_bag.nd rfl (by first | exact .inl rfl | exact .inr rfl)) (by decide))) (fun _ _ _ _ _ => tsnil) (fun _ _ _ _ _ => (gcint rfl T.z_int (acons (gv (pv 1)) anil)))) (acons gint (acons gint (acons gint anil)))))))
theorem ok__law_mixed (T : Txt C.K mg) : FnOk P w C.K mg base (L2.CX P w) 2 T.f__law_mixed T.d__law_mixed P__law_mixed (spM C 2 m__law_mixed) :=
  fnok T.F__law_mixed sc__law_mixed fun cdv A outer s H E hr => by
    have hu := hr.units
    have hu65 := hu65_of hr
    exact (xcons (xset (ps_set (i := 2) sc__law_mixed.nd rfl (.inl rfl) (gmod (gmul (gadd rfl (gadd rfl (gmod (gcint rfl T.z_int (acons (gv (pv 0)) anil)) gint) (gmul gint (gv (pv 1)))) gint) gint) gint)))
  (xcons (xset (ps_set (i := 2) sc__law_mixed.nd rfl (.inl rfl) (gmod (gmul (gv (pv 2)) (gadd rfl (gdiv (gv (pv 2)) gint) gint)) gint)))
  (xone (xret (gdiv (gmod (gmul (gv (pv 2)) (gadd rfl (gdiv (gv (pv 2)) gint) gint)) gint) gint)))))
theorem ok__law_draw (T : Txt C.K mg) : FnOk P w C.K mg base (L2.CX P w) 3 T.f__law_draw T.d__law_draw P__law_draw (spM C 2 m__law_draw) :=
  fnok T.F__law_draw sc__law_draw fun cdv A outer s H E hr => by
    have hu := hr.units
    have hu65 := hu65_of hr
    exact (xcons (xasg (vs := []) (gadd rfl (gix rfl (gv (pv 0)) gint (fun _ _ => rfl)) gint) (tgsub (gv (pv 0)) gint))
  (xcons (xif (tcmp (op_gt) br_cmp (gix rfl (gv (pv 0)) gint (fun _ _ => rfl)) gint (nomark _)) (xcons (xset (ps_set (i := 2) sc__law_draw.nd rfl (.inl rfl) (gmod (gcint rfl T.z_int (acons (gix rfl (gv (pv 0)) gint (fun _ _ => rfl)) anil)) (gv (pv 1)))))
  (xcons (xasg (vs := []) (gdiv (gix rfl (gv (pv 0)) gint (fun _ _ => rfl)) (gv (pv 1))) (tgsub (gv (pv 0)) gint))
  (xone (xret (gv (pv 2)))))) xnil)
  (xcons (xset (ps_set (i := 3) sc__law_draw.nd rfl (.inl rfl) (gix rfl (gv (pv 0)) gint (fun _ _ => rfl))))
  (xcons (xif (tcmp (op_eqG hu) (br_eqD false) (glen rfl rfl T.z_len (acons (gv (pv 3)) anil)) gint (nomark _)) (xone (xret (gmod (gcall (ok__law_mixed T) (hr.mono (by decide)) rfl T.g__law_mixed T.F__law_mixed.kp T.B__law_mixed (passes_call (takes_of rfl rfl rfl rfl) fun _ _ _ _ h => h) mFun_len (acons gint (acons (gix rfl (gv (pv 0)) gint (fun _ _ => rfl)) anil))) (gv (pv 1))))) xnil)
  (xcons (xset (ps_set (i := 4) sc__law_draw.nd rfl (.inl rfl) (gix rfl (gv (pv 0)) gint (fun _ _ => rfl))))
  (xcons (xasg (vs := []) (gadd rfl (gv (pv 4)) gint) (tgsub (gv (pv 0)) gint))
  (xcons (xset (ps_set (i := 5) sc__law_draw.nd rfl (.inl rfl) (gix rfl (gv (pv 3)) (gmod (gcint rfl T.z_int (acons (gv (pv 4)) anil)) (glen rfl rfl T.z_len (acons (gv (pv 3)) anil))) (fun _ _ => rfl))))
  (xcons (xif (PW.pt (wand (tcmp (op_lt) br_cmp (gv (pv 4)) (glen rfl rfl T.z_len (acons (gv (pv 3)) anil)) (nomark _)) (wand1 (tcmp (op_ge) br_cmp (gabs rfl T.z_abs (acons (gv (pv 5)) anil)) (gpow gint gint) (nomark _))))) (xcons (xasg (vs := []) (gdiv (gabs rfl T.z_abs (acons (gv (pv 5)) anil)) (gv (pv 1))) (tgsub (gv (pv 0)) gint))
  (xone (xret (gmod (gcint rfl T.z_int (acons (gabs rfl T.z_abs (acons (gv (pv 5)) anil)) anil)) (gv (pv 1)))))) xnil)
  (xone (xret (gmod (gcall (ok__law_mixed T) (hr.mono (by decide)) rfl T.g__law_mixed T.F__law_mixed.kp T.B__law_mixed (passes_call (takes_of rfl rfl rfl rfl) fun _ _ _ _ h => h) mFun_len (acons (gv (pv 5)) (acons (gix rfl (gv (pv 0)) gint (fun _ _ => rfl)) anil))) (gv (pv 1)))))))))))))
theorem ok__law_versions (T : Txt C.K mg) : FnOk P w C.K mg base (L2.CX P w) 4 T.f__law_versions T.d__law_versions P__law_versions (spM C 1 m__law_versions) :=
  fnok T.F__law_versions sc__law_versions fun cdv A outer s H E hr => by
    have hu := hr.units
    have hu65 := hu65_of hr
    exact (xcons (xset (ps_set (i := 1) sc__law_versions.nd rfl (.inl rfl) (glst anil)))
  (xcons (xset (ps_set (i := 2) sc__law_versions.nd rfl (.inl rfl) gint))
  (xcons (xfor (vs := [3]) (passes_of rfl) rfl (grange1 rfl T.z_range (acons (gcall (ok__law_draw T) (hr.mono (by decide)) rfl T.g__law_draw T.F__law_draw.kp T.B__law_draw (passes_call (takes_of rfl rfl rfl rfl) fun _ _ _ _ h => h) mFun_len (acons (gv (pv 0)) (acons (gix rfl (glst (acons gint (acons gint anil))) (gcall (ok__law_draw T) (hr.mono (by decide)) rfl T.g__law_draw T.F__law_draw.kp T.B__law_draw (passes_call (takes_of rfl rfl rfl rfl) fun _ _ _ _ h => h) mFun_len (acons (gv (pv 0)) (acons gint anil))) (fun _ _ => rfl)) anil))) anil)) (tgname (pg_name (i := 3) sc__law_versions.nd rfl (by first | exact .inl rfl | exact .inr rfl)) (by decide)) (xcons (xset (ps_set (i := 2) sc__law_versions.nd rfl (.inl rfl) (gadd rfl (gadd rfl (gv (pv 2)) gint) (gcall (ok__law_draw T) (hr.mono (by decide)) rfl T.g__law_draw T.F__law_draw.kp T.B__law_draw (passes_call (takes_of rfl rfl rfl rfl) fun _ _ _ _ h => h) mFun_len (acons (gv (pv 0)) (acons (gix rfl (glst (acons gint (acons gint (acons (gpow gint gint) anil)))) (gcall (ok__law_draw T) (hr.mono (by decide)) rfl T.g__law_draw T.F__law_draw.kp T.B__law_draw (passes_call (takes_of rfl rfl rfl rfl) fun _ _ _ _ h => h) mFun_len (acons (gv (pv 0)) (acons gint anil))) (fun _ _ => rfl)) anil))))))
  (xcons (xset (ps_set (i := 4) sc__law_versions.nd rfl (.inl rfl) gnon))
  (xcons (xif (tcmp (op_gt) br_cmp (gcall (ok__law_draw T) (hr.mono (by decide)) rfl T.g__law_draw T.F__law_draw.kp T.B__law_draw (passes_call (takes_of rfl rfl rfl rfl) fun _ _ _ _ h => h) mFun_len (acons (gv (pv 0)) (acons gint anil))) gint (nomark _)) (xone (xset (ps_set (i := 4) sc__law_versions.nd rfl (.inl rfl) (gsub (gcall (ok__law_draw T) (hr.mono (by decide)) rfl T.g__law_draw T.F__law_draw.kp T.B__law_draw (passes_call (takes_of rfl rfl rfl rfl) fun _ _ _ _ h => h) mFun_len (acons (gv (pv 0)) (acons gint anil))) gint)))) xnil)
  (xone (xset (ps_set (i := 1) sc__law_versions.nd rfl (.inl rfl) (gadd rfl (glst (acons (gtup (acons (gv (pv 2)) (acons (gv (pv 4)) anil))) anil)) (gv (pv 1))))))))))
  (xone (xret (gv (pv 1)))))))
theorem ok__law_open (T : Txt C.K mg) : FnOk P w C.K mg base (L2.CX P w) 4 T.f__law_open T.d__law_open P__law_open (spM C 3 m__law_open) :=
  fnok T.F__law_open sc__law_open fun cdv A outer s H E hr => by
    have hu := hr.units
    have hu65 := hu65_of hr
    exact (xcons (xset (ps_set (i := 3) sc__law_open.nd rfl (.inl rfl) (glst anil)))
  (xcons (xfor (vs := [4]) (passes_of rfl) rfl (grange1 rfl T.z_range (acons (gcall (ok__law_draw T) (hr.mono (by decide)) rfl T.g__law_draw T.F__law_draw.kp T.B__law_draw (passes_call (takes_of rfl rfl rfl rfl) fun _ _ _ _ h => h) mFun_len (acons (gv (pv 0)) (acons gint anil))) anil)) (tgname (pg_name (i := 4) sc__law_open.nd rfl (by first | exact .inl rfl | exact .inr rfl)) (by decide)) (xcons (xset (ps_set (i := 5) sc__law_open.nd rfl (.inl rfl) (gcall (ok__law_draw T) (hr.mono (by decide)) rfl T.g__law_draw T.F__law_draw.kp T.B__law_draw (passes_call (takes_of rfl rfl rfl rfl) fun _ _ _ _ h => h) mFun_len (acons (gv (pv 0)) (acons (gadd rfl (gv (pv 2)) gint) anil)))))
  (xcons (xif (PW.pt (wand (tcmp (op_gt) br_cmp (glen rfl rfl T.z_len (acons (gv (pv 1)) anil)) gint (nomark _)) (wand1 (tcmp (op_gt) br_cmp (gcall (ok__law_draw T) (hr.mono (by decide)) rfl T.g__law_draw T.F__law_draw.kp T.B__law_draw (passes_call (takes_of rfl rfl rfl rfl) fun _ _ _ _ h => h) mFun_len (acons (gv (pv 0)) (acons gint anil))) gint (nomark _))))) (xone (xset (ps_set (i := 5) sc__law_open.nd rfl (.inl rfl) (gmin2 rfl rfl T.z_min (acons (gv (pv 2)) (acons (gsub (gadd rfl (gix rfl (gix rfl (gv (pv 1)) (gcall (ok__law_draw T) (hr.mono (by decide)) rfl T.g__law_draw T.F__law_draw.kp T.B__law_draw (passes_call (takes_of rfl rfl rfl rfl) fun _ _ _ _ h => h) mFun_len (acons (gv (pv 0)) (acons (glen rfl rfl T.z_len (acons (gv (pv 1)) anil)) anil))) (fun _ _ => rfl)) gint (fun _ _ => rfl)) (gcall (ok__law_draw T) (hr.mono (by decide)) rfl T.g__law_draw T.F__law_draw.kp T.B__law_draw (passes_call (takes_of rfl rfl rfl rfl) fun _ _ _ _ h => h) mFun_len (acons (gv (pv 0)) (acons gint anil)))) gint) anil)))))) xnil)
  (xone (xif (tcmp (op_notInA hu65) (br_in true) (gv (pv 5)) (gv (pv 3)) (by rfl)) (xone (xexpr (gapp (h := pe_bm PySem.F.plainAttrs_list PySem.F.slot_list_append PySem.F.type_list_append mt_append (gv (pv 3)) (acons (gv (pv 5)) anil))))) xnil)))))
  (xone (xret (gtuple rfl rfl T.z_tuple (acons (gsortA rfl rfl T.z_sorted (acons (gv (pv 3)) anil)) anil))))))
theorem ok__law_needed (T : Txt C.K mg) : FnOk P w C.K mg base (L2.CX P w) 2 T.f__law_needed T.d__law_needed P__law_needed (spM C 2 m__law_needed) :=
  fnok T.F__law_needed sc__law_needed fun cdv A outer s H E hr => by
    have hu := hr.units
    have hu65 := hu65_of hr
    exact (xcons (xset (ps_set (i := 2) sc__law_needed.nd rfl (.inl rfl) (glst anil)))
  (xcons (xfor (vs := [3]) (passes_of rfl) rfl (grange1 rfl T.z_range (acons (glen rfl rfl T.z_len (acons (gv (pv 0)) anil)) anil)) (tgname (pg_name (i := 3) sc__law_needed.nd rfl (by first | exact .inl rfl | exact .inr rfl)) (by decide)) (xcons (xset (ps_set (i := 4) sc__law_needed.nd rfl (.inl rfl) (gsub (gsub (glen rfl rfl T.z_len (acons (gv (pv 0)) anil)) gint) (gv (pv 3)))))
  (xcons (xset (ps_set (i := 5) sc__law_needed.nd rfl (.inl rfl) (gcmp (op_eqG hu) (br_eqD false) (gv (pv 4)) gint (nomark _))))
  (xcons (xfor (vs := [6]) (passes_of rfl) rfl (gseq rfl (gv (pv 1))) (tgname (pg_name (i := 6) sc__law_needed.nd rfl (by first | exact .inl rfl | exact .inr rfl)) (by decide)) (xone (xif (PW.pt (wand (tcmp (op_le) br_cmp (gix rfl (gix rfl (gv (pv 0)) (gv (pv 4)) (fun _ _ => rfl)) gint (fun _ _ => rfl)) (gv (pv 6)) (nomark _)) (wand1 (PW.pt (wor (tcmp (op_eqG hu) (br_eqD false) (gv (pv 4)) gint (nomark _)) (wor1 (tcmp (op_lt) br_cmp (gv (pv 6)) (gix rfl (gix rfl (gv (pv 0)) (gsub (gv (pv 4)) gint) (fun _ _ => rfl)) gint (fun _ _ => rfl)) (nomark _)))))))) (xone (xset (ps_set (i := 5) sc__law_needed.nd rfl (.inl rfl) gbl))) xnil)))
  (xone (xif (PW.pt (wand (tcv (gv (pv 5))) (wand1 (PW.pt (wor (tnotN (gix rfl (gix rfl (gv (pv 0)) (gv (pv 4)) (fun _ _ => rfl)) gint (fun _ _ => rfl))) (wor1 (tcmp (op_gt) br_cmp (glen rfl rfl T.z_len (acons (gv (pv 2)) anil)) gint (nomark _)))))))) (xone (xexpr (gapp (h := pe_bm PySem.F.plainAttrs_list PySem.F.slot_list_append PySem.F.type_list_append mt_append (gv (pv 2)) (acons (gix rfl (gix rfl (gv (pv 0)) (gv (pv 4)) (fun _ _ => rfl)) gint (fun _ _ => rfl)) anil))))) xnil))))))
  (xone (xret (gv (pv 2))))))
theorem ok_is_pair (T : Txt C.K mg) : FnOk P w C.K mg base (L2.CX P w) 2 T.f_is_pair T.d_is_pair P_is_pair (spM C 1 m_is_pair) :=
  fnok T.F_is_pair sc_is_pair fun cdv A outer s H E hr => by
    have hu := hr.units
    have hu65 := hu65_of hr
    exact (xone (xret (gand (gisi rfl rfl T.z_isinstance (gv (pv 0)) (pe_bltn rfl T.z_tuple (by decide +kernel) rfl)) (gone (gcmp (op_eqG hu) (br_eqD false) (glen rfl rfl T.z_len (acons (gv (pv 0)) anil)) gint (nomark _))))))
theorem ok_is_integer (T : Txt C.K mg) : FnOk P w C.K mg base (L2.CX P w) 2 T.f_is_integer T.d_is_integer P_is_integer (spM C 1 m_is_integer) :=
  fnok T.F_is_integer sc_is_integer fun cdv A outer s H E hr => by
    have hu := hr.units
    have hu65 := hu65_of hr
    exact (xone (xret (gand (gisi rfl rfl T.z_isinstance (gv (pv 0)) (pe_bltn rfl T.z_int (by decide +kernel) rfl)) (gone (gnot (gisi rfl rfl T.z_isinstance (gv (pv 0)) (pe_bltn rfl T.z_bool (by decide +kernel) rfl)))))))
theorem ok_is_within (T : Txt C.K mg) : FnOk P w C.K mg base (L2.CX P w) 3 T.f_is_within T.d_is_within P_is_within (spM C 3 m_is_within) :=
  fnok T.F_is_within sc_is_within fun cdv A outer s H E hr => by
    have hu := hr.units
    have hu65 := hu65_of hr
    exact (xone (xret (gand (gcall (ok_is_integer T) (hr.mono (by decide)) rfl T.g_is_integer T.F_is_integer.kp T.B_is_integer (passes_call (takes_of rfl rfl rfl rfl) fun _ _ _ _ h => h) mFun_len (acons (gv (pv 0)) anil)) (gone (gchain (op_le) (op_le) br_cmp br_cmp (gv (pv 1)) (gv (pv 0)) (gv (pv 2)) (by with_unfolding_all rfl))))))
theorem ok_is_commit (T : Txt C.K mg) : FnOk P w C.K mg base (L2.CX P w) 4 T.f_is_commit T.d_is_commit P_is_commit (spM C 1 m_is_commit) :=
  fnok T.F_is_commit sc_is_commit fun cdv A outer s H E hr => by
    have hu := hr.units
    have hu65 := hu65_of hr
    exact (xone (xret (gcall (ok_is_within T) (hr.mono (by decide)) rfl T.g_is_within T.F_is_within.kp T.B_is_within (passes_call (takes_of rfl rfl rfl rfl) fun _ _ _ _ h => h) mFun_len (acons (gv (pv 0)) (acons gint (acons (gc (v := .int (1000000000000000000)) (pe_glob rfl T.c_MOST_WORTH ⟨_, rfl⟩) fun _ _ => .int _) anil))))))
theorem ok_is_worth (T : Txt C.K mg) : FnOk P w C.K mg base (L2.CX P w) 4 T.f_is_worth T.d_is_worth P_is_worth (spM C 1 m_is_worth) :=
  fnok T.F_is_worth sc_is_worth fun cdv A outer s H E hr => by
    have hu := hr.units
    have hu65 := hu65_of hr
    exact (xone (xret (gcall (ok_is_within T) (hr.mono (by decide)) rfl T.g_is_within T.F_is_within.kp T.B_is_within (passes_call (takes_of rfl rfl rfl rfl) fun _ _ _ _ h => h) mFun_len (acons (gv (pv 0)) (acons (gneg (gc (v := .int (1000000000000000000)) (pe_glob rfl T.c_MOST_WORTH ⟨_, rfl⟩) fun _ _ => .int _)) (acons (gc (v := .int (1000000000000000000)) (pe_glob rfl T.c_MOST_WORTH ⟨_, rfl⟩) fun _ _ => .int _) anil))))))
theorem ok_is_mark (T : Txt C.K mg) : FnOk P w C.K mg base (L2.CX P w) 5 T.f_is_mark T.d_is_mark P_is_mark (spM C 1 m_is_mark) :=
  fnok T.F_is_mark sc_is_mark fun cdv A outer s H E hr => by
    have hu := hr.units
    have hu65 := hu65_of hr
    exact (xone (xret (gor (gisN (gv (pv 0))) (gone (gcall (ok_is_worth T) (hr.mono (by decide)) rfl T.g_is_worth T.F_is_worth.kp T.B_is_worth (passes_call (takes_of rfl rfl rfl rfl) fun _ _ _ _ h => h) mFun_len (acons (gv (pv 0)) anil))))))
theorem ok_check_versions (T : Txt C.K mg) : FnOk P w C.K mg base (L2.CX P w) 6 T.f_check_versions T.d_check_versions P_check_versions (spM C 1 m_check_versions) :=
  fnok T.F_check_versions sc_check_versions fun cdv A outer s H E hr => by
    have hu := hr.units
    have hu65 := hu65_of hr
    exact (xcons (xif (tnot (tcv (gisi2 rfl rfl T.z_isinstance (gv (pv 0)) (pe_bltn rfl T.z_list (by decide +kernel) rfl) (pe_bltn rfl T.z_tuple (by decide +kernel) rfl)))) (xone xnever) xnil)
  (xone (xfor (vs := [1, 2]) (passes_of rfl) rfl (genum rfl rfl T.z_enumerate (acons (gv (pv 0)) anil)) (tgtup rfl rfl (tgcons (tgname (pg_name (i := 1) sc_check_versions.nd rfl (by first | exact .inl rfl | exact .inr rfl)) (by decide)) (tgcons (tgname (pg_name (i := 2) sc_check_versions.nd rfl (by first | exact .inl rfl | exact .inr rfl)) (by decide)) tgnil))) (xcons (xif (PW.pt (wor (tnot (tcv (gcall (ok_is_pair T) (hr.mono (by decide)) rfl T.g_is_pair T.F_is_pair.kp T.B_is_pair (passes_call (takes_of rfl rfl rfl rfl) fun _ _ _ _ h => h) mFun_len (acons (gv (pv 2)) anil)))) (wor (tnot (tcv (gcall (ok_is_commit T) (hr.mono (by decide)) rfl T.g_is_commit T.F_is_commit.kp T.B_is_commit (passes_call (takes_of rfl rfl rfl rfl) fun _ _ _ _ h => h) mFun_len (acons (gix rfl (gv (pv 2)) gint (fun _ _ => rfl)) anil)))) (wor1 (tnot (tcv (gcall (ok_is_mark T) (hr.mono (by decide)) rfl T.g_is_mark T.F_is_mark.kp T.B_is_mark (passes_call (takes_of rfl rfl rfl rfl) fun _ _ _ _ h => h) mFun_len (acons (gix rfl (gv (pv 2)) gint (fun _ _ => rfl)) anil)))))))) (xone xnever) xnil)
  (xone (xif (PW.pt (wand (tcmp (op_gt) br_cmp (gv (pv 1)) gint (nomark _)) (wand1 (tcmp (op_ge) br_cmp (gix rfl (gv (pv 2)) gint (fun _ _ => rfl)) (gix rfl (gix rfl (gv (pv 0)) (gsub (gv (pv 1)) gint) (fun _ _ => rfl)) gint (fun _ _ => rfl)) (nomark _))))) (xone xnever) xnil))))))
theorem ok_check_last (T : Txt C.K mg) : FnOk P w C.K mg base (L2.CX P w) 4 T.f_check_last T.d_check_last P_check_last (spM C 2 m_check_last) :=
  fnok T.F_check_last sc_check_last fun cdv A outer s H E hr => by
    have hu := hr.units
    have hu65 := hu65_of hr
    exact (xone (xif (tnot (tcv (gcall (ok_is_within T) (hr.mono (by decide)) rfl T.g_is_within T.F_is_within.kp T.B_is_within (passes_call (takes_of rfl rfl rfl rfl) fun _ _ _ _ h => h) mFun_len (acons (gv (pv 0)) (acons (gv (pv 1)) (acons (gc (v := .int (1000000000000000000)) (pe_glob rfl T.c_MOST_WORTH ⟨_, rfl⟩) fun _ _ => .int _) anil)))))) (xone xnever) xnil))
theorem ok_is_lot (T : Txt C.K mg) : FnOk P w C.K mg base (L2.CX P w) 4 T.f_is_lot T.d_is_lot P_is_lot (spM C 2 m_is_lot) :=
  fnok T.F_is_lot sc_is_lot fun cdv A outer s H E hr => by
    have hu := hr.units
    have hu65 := hu65_of hr
    exact (xcons (xif (tnot (tcv (gisi rfl rfl T.z_isinstance (gv (pv 0)) (pe_bltn rfl T.z_tuple (by decide +kernel) rfl)))) (xone (xret gbl)) xnil)
  (xcons (xset (ps_set (i := 2) sc_is_lot.nd rfl (.inl rfl) (gneg gint)))
  (xcons (xfor (vs := [3]) (passes_of rfl) rfl (gseq rfl (gv (pv 0))) (tgname (pg_name (i := 3) sc_is_lot.nd rfl (by first | exact .inl rfl | exact .inr rfl)) (by decide)) (xcons (xif (tnot (tcv (gcall (ok_is_within T) (hr.mono (by decide)) rfl T.g_is_within T.F_is_within.kp T.B_is_within (passes_call (takes_of rfl rfl rfl rfl) fun _ _ _ _ h => h) mFun_len (acons (gv (pv 3)) (acons (gadd rfl (gv (pv 2)) gint) (acons (gsub (gv (pv 1)) gint) anil)))))) (xone (xret gbl)) xnil)
  (xone (xset (ps_set (i := 2) sc_is_lot.nd rfl (.inl rfl) (gv (pv 3)))))))
  (xone (xret gbl)))))
theorem ok_check_open (T : Txt C.K mg) : FnOk P w C.K mg base (L2.CX P w) 5 T.f_check_open T.d_check_open P_check_open (spM C 2 m_check_open) :=
  fnok T.F_check_open sc_check_open fun cdv A outer s H E hr => by
    have hu := hr.units
    have hu65 := hu65_of hr
    exact (xone (xif (tnot (tcv (gcall (ok_is_lot T) (hr.mono (by decide)) rfl T.g_is_lot T.F_is_lot.kp T.B_is_lot (passes_call (takes_of rfl rfl rfl rfl) fun _ _ _ _ h => h) mFun_len (acons (gv (pv 0)) (acons (gadd rfl (gv (pv 1)) gint) anil))))) (xone xnever) xnil))
theorem ok_check_asked (T : Txt C.K mg) : FnOk P w C.K mg base (L2.CX P w) 7 T.f_check_asked T.d_check_asked P_check_asked (spM C 3 m_check_asked) :=
  fnok T.F_check_asked sc_check_asked fun cdv A outer s H E hr => by
    have hu := hr.units
    have hu65 := hu65_of hr
    exact (xcons (xexpr (gcall (ok_check_versions T) (hr.mono (by decide)) rfl T.g_check_versions T.F_check_versions.kp T.B_check_versions (passes_call (takes_of rfl rfl rfl rfl) fun _ _ _ _ h => h) mFun_len (acons (gv (pv 0)) anil)))
  (xcons (xexpr (gcall (ok_check_last T) (hr.mono (by decide)) rfl T.g_check_last T.F_check_last.kp T.B_check_last (passes_call (takes_of rfl rfl rfl rfl) fun _ _ _ _ h => h) mFun_len (acons (gv (pv 2)) (acons (gif (tcmp (op_gt) br_cmp (glen rfl rfl T.z_len (acons (gv (pv 0)) anil)) gint (nomark _)) (gix rfl (gix rfl (gv (pv 0)) gint (fun _ _ => rfl)) gint (fun _ _ => rfl)) gint) anil))))
  (xone (xexpr (gcall (ok_check_open T) (hr.mono (by decide)) rfl T.g_check_open T.F_check_open.kp T.B_check_open (passes_call (takes_of rfl rfl rfl rfl) fun _ _ _ _ h => h) mFun_len (acons (gv (pv 1)) (acons (gv (pv 2)) anil)))))))
theorem ok_asked_of (T : Txt C.K mg) : FnOk P w C.K mg base (L2.CX P w) 2 T.f_asked_of T.d_asked_of P_asked_of (spM C 2 m_asked_of) :=
  fnok T.F_asked_of sc_asked_of fun cdv A outer s H E hr => by
    have hu := hr.units
    have hu65 := hu65_of hr
    exact (xone (xret (gadd rfl (gtuple rfl rfl T.z_tuple (acons (glc (own := [("snapshot", 2)]) rfl sc_asked_of.nd (gseq rfl (gv (pv 0))) (blkOk_by (N := N_asked_of) (sc := defScope s_asked_of) (by decide +kernel)) rfl (fun _ _ _ _ _ => (tgname (pg_name (i := 2) sc_asked_of.nd rfl (by first | exact .inl rfl | exact .inr rfl)) (by decide))) (fun _ _ _ _ _ => (tsone (tcmp (op_lt) br_cmp (gv (pv 2)) (gv (pv 1)) (nomark _)))) (fun _ _ _ _ _ => (gv (pv 2)))) anil)) (gtup (acons (gv (pv 1)) anil)))))
theorem ok_seen_of (T : Txt C.K mg) : FnOk P w C.K mg base (L2.CX P w) 2 T.f_seen_of T.d_seen_of P_seen_of (spM C 2 m_seen_of) :=
  fnok T.F_seen_of sc_seen_of fun cdv A outer s H E hr => by
    have hu := hr.units
    have hu65 := hu65_of hr
    exact (xcons (xfor (vs := [2]) (passes_of rfl) rfl (gseq rfl (gv (pv 0))) (tgname (pg_name (i := 2) sc_seen_of.nd rfl (by first | exact .inl rfl | exact .inr rfl)) (by decide)) (xone (xif (tcmp (op_le) br_cmp (gix rfl (gv (pv 2)) gint (fun _ _ => rfl)) (gv (pv 1)) (nomark _)) (xone (xret (gv (pv 2)))) xnil)))
  (xone (xret gnon)))
theorem ok_needed_of (T : Txt C.K mg) : FnOk P w C.K mg base (L2.CX P w) 3 T.f_needed_of T.d_needed_of P_needed_of (spM C 3 m_needed_of) :=
  fnok T.F_needed_of sc_needed_of fun cdv A outer s H E hr => by
    have hu := hr.units
    have hu65 := hu65_of hr
    exact (xcons (xsetLc (i := 3) (own := [("snapshot", 6)]) rfl sc_needed_of.nd rfl rfl (sw_true rfl rfl rfl (by decide +kernel)) (gseq rfl (gcall (ok_asked_of T) (hr.mono (by decide)) rfl T.g_asked_of T.F_asked_of.kp T.B_asked_of (passes_call (takes_of rfl rfl rfl rfl) fun _ _ _ _ h => h) mFun_len (acons (gv (pv 1)) (acons (gv (pv 2)) anil)))) (blkOk_by (N := N_needed_of) (sc := defScope s_needed_of) (by decide +kernel)) rfl (fun _ _ _ _ _ => (tgname (pg_name (i := 6) sc_needed_of.nd rfl (by first | exact .inl rfl | exact .inr rfl)) (by decide))) (fun _ _ _ _ _ => tsnil) (fun _ _ _ _ _ => (gcall (ok_seen_of T) (hr.mono (by decide)) rfl T.g_seen_of T.F_seen_of.kp T.B_seen_of passL mFun_len (acons (gv (pv 0)) (acons (gv (pv 6)) anil)))))
  (xcons (xset (ps_set (i := 4) sc_needed_of.nd rfl (.inl rfl) (glst anil)))
  (xcons (xfor (vs := [5]) (passes_of rfl) rfl (gseq rfl (grev rfl (gv (pv 0)))) (tgname (pg_name (i := 5) sc_needed_of.nd rfl (by first | exact .inl rfl | exact .inr rfl)) (by decide)) (xone (xif (PW.pt (wand (tcmp (op_inA hu65) (br_in false) (gv (pv 5)) (gv (pv 3)) (by rfl)) (wand1 (PW.pt (wor (tnotN (gix rfl (gv (pv 5)) gint (fun _ _ => rfl))) (wor1 (tcmp (op_gt) br_cmp (glen rfl rfl T.z_len (acons (gv (pv 4)) anil)) gint (nomark _)))))))) (xone (xexpr (gapp (h := pe_bm PySem.F.plainAttrs_list PySem.F.slot_list_append PySem.F.type_list_append mt_append (gv (pv 4)) (acons (gix rfl (gv (pv 5)) gint (fun _ _ => rfl)) anil))))) xnil)))
  (xone (xret (gtuple rfl rfl T.z_tuple (acons (gv (pv 4)) anil)))))))
theorem ok_needed (T : Txt C.K mg) : FnOk P w C.K mg base (L2.CX P w) 8 T.f_needed T.d_needed P_needed (spM C 3 m_needed) :=
  fnok T.F_needed sc_needed fun cdv A outer s H E hr => by
    have hu := hr.units
    have hu65 := hu65_of hr
    exact (xcons (xexpr (gcall (ok_check_asked T) (hr.mono (by decide)) rfl T.g_check_asked T.F_check_asked.kp T.B_check_asked (passes_call (takes_of rfl rfl rfl rfl) fun _ _ _ _ h => h) mFun_len (acons (gv (pv 0)) (acons (gv (pv 1)) (acons (gv (pv 2)) anil)))))
  (xone (xret (gcall (ok_needed_of T) (hr.mono (by decide)) rfl T.g_needed_of T.F_needed_of.kp T.B_needed_of (passes_call (takes_of rfl rfl rfl rfl) fun _ _ _ _ h => h) mFun_len (acons (gv (pv 0)) (acons (gv (pv 1)) (acons (gv (pv 2)) anil)))))))
theorem ok__law_is_lot (T : Txt C.K mg) : FnOk P w C.K mg base (L2.CX P w) 2 T.f__law_is_lot T.d__law_is_lot P__law_is_lot (spM C 2 m__law_is_lot) :=
  fnok T.F__law_is_lot sc__law_is_lot fun cdv A outer s H E hr => by
    have hu := hr.units
    have hu65 := hu65_of hr
    exact (xcons (xif (tnot (tcv (gisi rfl rfl T.z_isinstance (gv (pv 0)) (pe_bltn rfl T.z_tuple (by decide +kernel) rfl)))) (xone (xret gbl)) xnil)
  (xcons (xset (ps_set (i := 2) sc__law_is_lot.nd rfl (.inl rfl) gint))
  (xcons (xfor (vs := [3]) (passes_of rfl) rfl (gseq rfl (gv (pv 0))) (tgname (pg_name (i := 3) sc__law_is_lot.nd rfl (by first | exact .inl rfl | exact .inr rfl)) (by decide)) (xcons (xif (PW.pt (wor (tnot (tcv (gisi rfl rfl T.z_isinstance (gv (pv 3)) (pe_bltn rfl T.z_int (by decide +kernel) rfl)))) (wor (tcv (gisi rfl rfl T.z_isinstance (gv (pv 3)) (pe_bltn rfl T.z_bool (by decide +kernel) rfl))) (wor (tcmp (op_le) br_cmp (gv (pv 3)) (gv (pv 2)) (nomark _)) (wor1 (tcmp (op_notInA hu65) (br_in true) (gv (pv 3)) (gv (pv 1)) (by rfl))))))) (xone (xret gbl)) xnil)
  (xone (xset (ps_set (i := 2) sc__law_is_lot.nd rfl (.inl rfl) (gv (pv 3)))))))
  (xone (xret gbl)))))
theorem ok__law_seen (T : Txt C.K mg) : FnOk P w C.K mg base (L2.CX P w) 2 T.f__law_seen T.d__law_seen P__law_seen (spM C 2 m__law_seen) :=
  fnok T.F__law_seen sc__law_seen fun cdv A outer s H E hr => by
    have hu := hr.units
    have hu65 := hu65_of hr
    exact (xcons (xfor (vs := [2]) (passes_of rfl) rfl (gseq rfl (gv (pv 0))) (tgname (pg_name (i := 2) sc__law_seen.nd rfl (by first | exact .inl rfl | exact .inr rfl)) (by decide)) (xone (xif (tcmp (op_le) br_cmp (gix rfl (gv (pv 2)) gint (fun _ _ => rfl)) (gv (pv 1)) (nomark _)) (xone (xret (gv (pv 2)))) xnil)))
  (xone (xret gnon)))
theorem ok__law_is_enough (T : Txt C.K mg) : FnOk P w C.K mg base (L2.CX P w) 3 T.f__law_is_enough T.d__law_is_enough P__law_is_enough (spM C 3 m__law_is_enough) :=
  fnok T.F__law_is_enough sc__law_is_enough fun cdv A outer s H E hr => by
    have hu := hr.units
    have hu65 := hu65_of hr
    exact (xcons (xif (tnot (tcv (gcall (ok__law_is_lot T) (hr.mono (by decide)) rfl T.g__law_is_lot T.F__law_is_lot.kp T.B__law_is_lot (passes_call (takes_of rfl rfl rfl rfl) fun _ _ _ _ h => h) mFun_len (acons (gv (pv 2)) (acons (glc (own := [("_law_pair", 7)]) rfl sc__law_is_enough.nd (gseq rfl (gv (pv 0))) (blkOk_by (N := N__law_is_enough) (sc := defScope s__law_is_enough) (by decide +kernel)) rfl (fun _ _ _ _ _ => (tgname (pg_name (i := 7) sc__law_is_enough.nd rfl (by first | exact .inl rfl | exact .inr rfl)) (by decide))) (fun _ _ _ _ _ => tsnil) (fun _ _ _ _ _ => (gix rfl (gv (pv 7)) gint (fun _ _ => rfl)))) anil))))) (xone (xret gbl)) xnil)
  (xcons (xsetLc (i := 3) (own := [("_law_pair", 7)]) rfl sc__law_is_enough.nd rfl rfl (sw_true rfl rfl rfl (by decide +kernel)) (gseq rfl (gv (pv 0))) (blkOk_by (N := N__law_is_enough) (sc := defScope s__law_is_enough) (by decide +kernel)) rfl (fun _ _ _ _ _ => (tgname (pg_name (i := 7) sc__law_is_enough.nd rfl (by first | exact .inl rfl | exact .inr rfl)) (by decide))) (fun _ _ _ _ _ => (tsone (tcmp (op_inA hu65) (br_in false) (gix rfl (gv (pv 7)) gint (fun _ _ => rfl)) (gv (pv 2)) (by rfl)))) (fun _ _ _ _ _ => (gv (pv 7))))
  (xcons (xfor (vs := [4]) (passes_of rfl) rfl (gseq rfl (gv (pv 1))) (tgname (pg_name (i := 4) sc__law_is_enough.nd rfl (by first | exact .inl rfl | exact .inr rfl)) (by decide)) (xcons (xset (ps_set (i := 5) sc__law_is_enough.nd rfl (.inl rfl) (gcall (ok__law_seen T) (hr.mono (by decide)) rfl T.g__law_seen T.F__law_seen.kp T.B__law_seen (passes_call (takes_of rfl rfl rfl rfl) fun _ _ _ _ h => h) mFun_len (acons (gv (pv 0)) (acons (gv (pv 4)) anil)))))
  (xcons (xset (ps_set (i := 6) sc__law_is_enough.nd rfl (.inl rfl) (gcall (ok__law_seen T) (hr.mono (by decide)) rfl T.g__law_seen T.F__law_seen.kp T.B__law_seen (passes_call (takes_of rfl rfl rfl rfl) fun _ _ _ _ h => h) mFun_len (acons (gv (pv 3)) (acons (gv (pv 4)) anil)))))
  (xone (xif (tisN (gv (pv 6))) (xone (xif (PW.pt (wand (tnotN (gv (pv 5))) (wand1 (tnotN (gix rfl (gv (pv 5)) gint (fun _ _ => rfl)))))) (xone (xret gbl)) xnil)) (xone (xif (tcmp (op_neG hu) (br_eqD true) (gix rfl (gv (pv 5)) gint (fun _ _ => rfl)) (gix rfl (gv (pv 6)) gint (fun _ _ => rfl)) (nomark _)) (xone (xret gbl)) xnil)))))))
  (xone (xret gbl)))))
theorem ok_is_kept_right (T : Txt C.K mg) : FnOk P w C.K mg base (L2.CX P w) 8 T.f_is_kept_right T.d_is_kept_right P_is_kept_right (spM C 4 m_is_kept_right) :=
  fnok T.F_is_kept_right sc_is_kept_right fun cdv A outer s H E hr => by
    have hu := hr.units
    have hu65 := hu65_of hr
    exact (xcons (xexpr (gcall (ok_check_asked T) (hr.mono (by decide)) rfl T.g_check_asked T.F_check_asked.kp T.B_check_asked (passes_call (takes_of rfl rfl rfl rfl) fun _ _ _ _ h => h) mFun_len (acons (gv (pv 0)) (acons (gv (pv 1)) (acons (gv (pv 2)) anil)))))
  (xcons (xif (PW.pt (wor (tnot (tcv (gisi rfl rfl T.z_isinstance (gv (pv 3)) (pe_bltn rfl T.z_tuple (by decide +kernel) rfl)))) (wor1 (tnot (tcv (gall rfl rfl rfl T.z_all (acons (glc (own := [("commit", 10)]) rfl sc_is_kept_right.nd (gseq rfl (gv (pv 3))) (blkOk_by (N := N_is_kept_right) (sc := defScope s_is_kept_right) (by decide +kernel)) rfl (fun _ _ _ _ _ => (tgname (pg_name (i := 10) sc_is_kept_right.nd rfl (by first | exact .inl rfl | exact .inr rfl)) (by decide))) (fun _ _ _ _ _ => tsnil) (fun _ _ _ _ _ => (gcall (ok_is_integer T) (hr.mono (by decide)) rfl T.g_is_integer T.F_is_integer.kp T.B_is_integer passL mFun_len (acons (gv (pv 10)) anil)))) anil))))))) (xone (xret gbl)) xnil)
  (xcons (xset (ps_set (i := 4) sc_is_kept_right.nd rfl (.inr rfl) (glc (own := [("version", 9)]) rfl sc_is_kept_right.nd (gseq rfl (gv (pv 0))) (blkOk_by (N := N_is_kept_right) (sc := defScope s_is_kept_right) (by decide +kernel)) rfl (fun _ _ _ _ _ => (tgname (pg_name (i := 9) sc_is_kept_right.nd rfl (by first | exact .inl rfl | exact .inr rfl)) (by decide))) (fun _ _ _ _ _ => tsnil) (fun _ _ _ _ _ => (gix rfl (gv (pv 9)) gint (fun _ _ => rfl))))))
  (xcons (xif (PW.pt (wor (tcmp (op_neG hu) (br_eqD true) (glist rfl rfl T.z_list (acons (gv (pv 3)) anil)) (gsortA rfl rfl T.z_sorted (acons (gv (pv 3)) anil)) (nomark _)) (wor1 (tcmp (op_lt) br_cmp (glen rfl rfl T.z_len (acons (gdc (own := [("commit", 10)]) rfl sc_is_kept_right.nd (gseq rfl (gv (pv 3))) (blkOk_by (N := N_is_kept_right) (sc := defScope s_is_kept_right) (by decide +kernel)) rfl (fun _ _ _ _ _ => (tgname (pg_name (i := 10) sc_is_kept_right.nd rfl (by first | exact .inl rfl | exact .inr rfl)) (by decide))) (fun _ _ _ _ _ => tsnil) (fun _ _ _ _ _ => (gv (pv 10))) (fun _ _ _ _ _ => gbl)) anil)) (glen rfl rfl T.z_len (acons (gv (pv 3)) anil)) (nomark _))))) (xone (xret gbl)) xnil)
  (xcons (xif (tnot (tcv (gall rfl rfl rfl T.z_all (acons (glc (own := [("commit", 10)]) rfl sc_is_kept_right.nd (gseq rfl (gv (pv 3))) (blkOk_by (N := N_is_kept_right) (sc := defScope s_is_kept_right) (by decide +kernel)) rfl (fun _ _ _ _ _ => (tgname (pg_name (i := 10) sc_is_kept_right.nd rfl (by first | exact .inl rfl | exact .inr rfl)) (by decide))) (fun _ _ _ _ _ => tsnil) (fun _ _ _ _ _ => (gcmp (op_inA hu65) (br_in false) (gv (pv 10)) (gv (pv 4)) (by rfl)))) anil)))) (xone (xret gbl)) xnil)
  (xcons (xsetLc (i := 5) (own := [("version", 9)]) rfl sc_is_kept_right.nd rfl rfl (sw_true rfl rfl rfl (by decide +kernel)) (gseq rfl (gv (pv 0))) (blkOk_by (N := N_is_kept_right) (sc := defScope s_is_kept_right) (by decide +kernel)) rfl (fun _ _ _ _ _ => (tgname (pg_name (i := 9) sc_is_kept_right.nd rfl (by first | exact .inl rfl | exact .inr rfl)) (by decide))) (fun _ _ _ _ _ => (tsone (tcmp (op_inA hu65) (br_in false) (gix rfl (gv (pv 9)) gint (fun _ _ => rfl)) (gv (pv 3)) (by rfl)))) (fun _ _ _ _ _ => (gv (pv 9))))
  (xcons (xfor (vs := [6]) (passes_of rfl) rfl (gseq rfl (gcall (ok_asked_of T) (hr.mono (by decide)) rfl T.g_asked_of T.F_asked_of.kp T.B_asked_of (passes_call (takes_of rfl rfl rfl rfl) fun _ _ _ _ h => h) mFun_len (acons (gv (pv 1)) (acons (gv (pv 2)) anil)))) (tgname (pg_name (i := 6) sc_is_kept_right.nd rfl (by first | exact .inl rfl | exact .inr rfl)) (by decide)) (xcons (xpar (i := 7) (j := 8) rfl sc_is_kept_right.nd rfl rfl (by decide) rfl rfl (acons (gcall (ok_seen_of T) (hr.mono (by decide)) rfl T.g_seen_of T.F_seen_of.kp T.B_seen_of (passes_call (takes_of rfl rfl rfl rfl) fun _ _ _ _ h => h) mFun_len (acons (gv (pv 0)) (acons (gv (pv 6)) anil))) (acons (gcall (ok_seen_of T) (hr.mono (by decide)) rfl T.g_seen_of T.F_seen_of.kp T.B_seen_of (passes_call (takes_of rfl rfl rfl rfl) fun _ _ _ _ h => h) mFun_len (acons (gv (pv 5)) (acons (gv (pv 6)) anil))) anil)) rfl)
  (xone (xif (PW.pt (wand (tcmp (op_neG hu) (br_eqD true) (gv (pv 8)) (gv (pv 7)) (nomark _)) (wand1 (tnot (PW.pt (wand (tisN (gv (pv 8))) (wand1 (tisN (gix rfl (gv (pv 7)) gint (fun _ _ => rfl)))))))))) (xone (xret gbl)) xnil))))
  (xone (xret gbl)))))))))
theorem ok__law_some (T : Txt C.K mg) : FnOk P w C.K mg base (L2.CX P w) 4 T.f__law_some T.d__law_some P__law_some (spM C 3 m__law_some) :=
  fnok T.F__law_some sc__law_some fun cdv A outer s H E hr => by
    have hu := hr.units
    have hu65 := hu65_of hr
    exact (xcons (xset (ps_set (i := 3) sc__law_some.nd rfl (.inl rfl) (glst anil)))
  (xcons (xfor (vs := [4]) (passes_of rfl) rfl (gseq rfl (gv (pv 1))) (tgname (pg_name (i := 4) sc__law_some.nd rfl (by first | exact .inl rfl | exact .inr rfl)) (by decide)) (xone (xif (tcmp (op_lt) br_cmp (gcall (ok__law_draw T) (hr.mono (by decide)) rfl T.g__law_draw T.F__law_draw.kp T.B__law_draw (passes_call (takes_of rfl rfl rfl rfl) fun _ _ _ _ h => h) mFun_len (acons (gv (pv 0)) (acons gint anil))) (gv (pv 2)) (nomark _)) (xone (xexpr (gapp (h := pe_bm PySem.F.plainAttrs_list PySem.F.slot_list_append PySem.F.type_list_append mt_append (gv (pv 3)) (acons (gv (pv 4)) anil))))) xnil)))
  (xone (xret (gv (pv 3))))))
theorem ok__law_lot (T : Txt C.K mg) : FnOk P w C.K mg base (L2.CX P w) 5 T.f__law_lot T.d__law_lot P__law_lot (spM C 3 m__law_lot) :=
  fnok T.F__law_lot sc__law_lot fun cdv A outer s H E hr => by
    have hu := hr.units
    have hu65 := hu65_of hr
    exact (xcons (xset (ps_set (i := 3) sc__law_lot.nd rfl (.inl rfl) (gcall (ok__law_draw T) (hr.mono (by decide)) rfl T.g__law_draw T.F__law_draw.kp T.B__law_draw (passes_call (takes_of rfl rfl rfl rfl) fun _ _ _ _ h => h) mFun_len (acons (gv (pv 0)) (acons gint anil)))))
  (xcons (xset (ps_set (i := 4) sc__law_lot.nd rfl (.inl rfl) (gsortA rfl rfl T.z_sorted (acons (glc (own := [("_law_pair", 7)]) rfl sc__law_lot.nd (gseq rfl (gv (pv 1))) (blkOk_by (N := N__law_lot) (sc := defScope s__law_lot) (by decide +kernel)) rfl (fun _ _ _ _ _ => (tgname (pg_name (i := 7) sc__law_lot.nd rfl (by first | exact .inl rfl | exact .inr rfl)) (by decide))) (fun _ _ _ _ _ => tsnil) (fun _ _ _ _ _ => (gix rfl (gv (pv 7)) gint (fun _ _ => rfl)))) anil))))
  (xcons (xif (PW.pt (wor (tcmp (op_eqG hu) (br_eqD false) (gv (pv 3)) gint (nomark _)) (wor1 (tcmp (op_eqG hu) (br_eqD false) (glen rfl rfl T.z_len (acons (gv (pv 4)) anil)) gint (nomark _))))) (xone (xret (gtuple rfl rfl T.z_tuple (acons (gv (pv 2)) anil)))) xnil)
  (xcons (xif (tcmp (op_eqG hu) (br_eqD false) (gv (pv 3)) gint (nomark _)) (xone (xret (gtuple rfl rfl T.z_tuple (acons (gcall (ok__law_some T) (hr.mono (by decide)) rfl T.g__law_some T.F__law_some.kp T.B__law_some (passes_call (takes_of rfl rfl rfl rfl) fun _ _ _ _ h => h) mFun_len (acons (gv (pv 0)) (acons (gv (pv 4)) (acons (gadd rfl gint (gcall (ok__law_draw T) (hr.mono (by decide)) rfl T.g__law_draw T.F__law_draw.kp T.B__law_draw (passes_call (takes_of rfl rfl rfl rfl) fun _ _ _ _ h => h) mFun_len (acons (gv (pv 0)) (acons gint anil)))) anil)))) anil)))) xnil)
  (xcons (xif (tcmp (op_eqG hu) (br_eqD false) (gv (pv 3)) gint (nomark _)) (xcons (xset (ps_set (i := 5) sc__law_lot.nd rfl (.inr rfl) (gix rfl (gv (pv 4)) (gcall (ok__law_draw T) (hr.mono (by decide)) rfl T.g__law_draw T.F__law_draw.kp T.B__law_draw (passes_call (takes_of rfl rfl rfl rfl) fun _ _ _ _ h => h) mFun_len (acons (gv (pv 0)) (acons (glen rfl rfl T.z_len (acons (gv (pv 4)) anil)) anil))) (fun _ _ => rfl))))
  (xone (xret (gtuple rfl rfl T.z_tuple (acons (glc (own := [("_law_commit", 8)]) rfl sc__law_lot.nd (gseq rfl (gv (pv 4))) (blkOk_by (N := N__law_lot) (sc := defScope s__law_lot) (by decide +kernel)) rfl (fun _ _ _ _ _ => (tgname (pg_name (i := 8) sc__law_lot.nd rfl (by first | exact .inl rfl | exact .inr rfl)) (by decide))) (fun _ _ _ _ _ => (tsone (PW.pt (wor (tcmp (op_inA hu65) (br_in false) (gv (pv 8)) (gv (pv 2)) (by rfl)) (wor1 (tcmp (op_eqG hu) (br_eqD false) (gv (pv 8)) (gv (pv 5)) (nomark _))))))) (fun _ _ _ _ _ => (gv (pv 8)))) anil))))) xnil)
  (xcons (xif (tcmp (op_eqG hu) (br_eqD false) (gv (pv 3)) gint (nomark _)) (xcons (xset (ps_set (i := 5) sc__law_lot.nd rfl (.inr rfl) (gix rfl (gv (pv 4)) (gcall (ok__law_draw T) (hr.mono (by decide)) rfl T.g__law_draw T.F__law_draw.kp T.B__law_draw (passes_call (takes_of rfl rfl rfl rfl) fun _ _ _ _ h => h) mFun_len (acons (gv (pv 0)) (acons (glen rfl rfl T.z_len (acons (gv (pv 4)) anil)) anil))) (fun _ _ => rfl))))
  (xone (xret (gtuple rfl rfl T.z_tuple (acons (glc (own := [("_law_commit", 8)]) rfl sc__law_lot.nd (gseq rfl (gv (pv 2))) (blkOk_by (N := N__law_lot) (sc := defScope s__law_lot) (by decide +kernel)) rfl (fun _ _ _ _ _ => (tgname (pg_name (i := 8) sc__law_lot.nd rfl (by first | exact .inl rfl | exact .inr rfl)) (by decide))) (fun _ _ _ _ _ => (tsone (tcmp (op_neG hu) (br_eqD true) (gv (pv 8)) (gv (pv 5)) (nomark _)))) (fun _ _ _ _ _ => (gv (pv 8)))) anil))))) xnil)
  (xcons (xif (tcmp (op_eqG hu) (br_eqD false) (gv (pv 3)) gint (nomark _)) (xcons (xset (ps_set (i := 6) sc__law_lot.nd rfl (.inr rfl) (gcall (ok__law_some T) (hr.mono (by decide)) rfl T.g__law_some T.F__law_some.kp T.B__law_some (passes_call (takes_of rfl rfl rfl rfl) fun _ _ _ _ h => h) mFun_len (acons (gv (pv 0)) (acons (glc (own := [("_law_pair", 7)]) rfl sc__law_lot.nd (gseq rfl (gv (pv 1))) (blkOk_by (N := N__law_lot) (sc := defScope s__law_lot) (by decide +kernel)) rfl (fun _ _ _ _ _ => (tgname (pg_name (i := 7) sc__law_lot.nd rfl (by first | exact .inl rfl | exact .inr rfl)) (by decide))) (fun _ _ _ _ _ => (tsone (tisN (gix rfl (gv (pv 7)) gint (fun _ _ => rfl))))) (fun _ _ _ _ _ => (gix rfl (gv (pv 7)) gint (fun _ _ => rfl)))) (acons gint anil))))))
  (xone (xret (gtuple rfl rfl T.z_tuple (acons (glc (own := [("_law_commit", 8)]) rfl sc__law_lot.nd (gseq rfl (gv (pv 4))) (blkOk_by (N := N__law_lot) (sc := defScope s__law_lot) (by decide +kernel)) rfl (fun _ _ _ _ _ => (tgname (pg_name (i := 8) sc__law_lot.nd rfl (by first | exact .inl rfl | exact .inr rfl)) (by decide))) (fun _ _ _ _ _ => (tsone (PW.pt (wor (tcmp (op_inA hu65) (br_in false) (gv (pv 8)) (gv (pv 2)) (by rfl)) (wor1 (tcmp (op_inA hu65) (br_in false) (gv (pv 8)) (gv (pv 6)) (by rfl))))))) (fun _ _ _ _ _ => (gv (pv 8)))) anil))))) xnil)
  (xone (xret (gtuple rfl rfl T.z_tuple (acons (gv (pv 4)) anil)))))))))))
theorem ok__law_no_lot (T : Txt C.K mg) : FnOk P w C.K mg base (L2.CX P w) 4 T.f__law_no_lot T.d__law_no_lot P__law_no_lot (spM C 2 m__law_no_lot) :=
  fnok T.F__law_no_lot sc__law_no_lot fun cdv A outer s H E hr => by
    have hu := hr.units
    have hu65 := hu65_of hr
    exact (xcons (xset (ps_set (i := 2) sc__law_no_lot.nd rfl (.inl rfl) (gcall (ok__law_draw T) (hr.mono (by decide)) rfl T.g__law_draw T.F__law_draw.kp T.B__law_draw (passes_call (takes_of rfl rfl rfl rfl) fun _ _ _ _ h => h) mFun_len (acons (gv (pv 0)) (acons gint anil)))))
  (xcons (xset (ps_set (i := 3) sc__law_no_lot.nd rfl (.inl rfl) (gcall (ok__law_draw T) (hr.mono (by decide)) rfl T.g__law_draw T.F__law_draw.kp T.B__law_draw (passes_call (takes_of rfl rfl rfl rfl) fun _ _ _ _ h => h) mFun_len (acons (gv (pv 0)) (acons (gadd rfl (glen rfl rfl T.z_len (acons (gv (pv 1)) anil)) gint) anil)))))
  (xcons (xif (tcmp (op_eqG hu) (br_eqD false) (gv (pv 2)) gint (nomark _)) (xone (xret (glist rfl rfl T.z_list (acons (gv (pv 1)) anil)))) xnil)
  (xcons (xif (tcmp (op_eqG hu) (br_eqD false) (gv (pv 2)) gint (nomark _)) (xone (xret (grev rfl (gv (pv 1))))) xnil)
  (xcons (xif (tcmp (op_eqG hu) (br_eqD false) (gv (pv 2)) gint (nomark _)) (xone (xret (gadd rfl (gsl rfl (gv (pv 1)) onone (osome (gv (pv 3)))) (gsl rfl (gv (pv 1)) (osome (gmax2 rfl rfl T.z_max (acons gint (acons (gsub (gv (pv 3)) gint) anil)))) onone)))) xnil)
  (xcons (xif (tcmp (op_eqG hu) (br_eqD false) (gv (pv 2)) gint (nomark _)) (xcons (xset (ps_set (i := 4) sc__law_no_lot.nd rfl (.inl rfl) (gix rfl (glst (acons gint (acons (gneg gint) (acons (gpow gint gint) (acons (gpow gint gint) anil))))) (gcall (ok__law_draw T) (hr.mono (by decide)) rfl T.g__law_draw T.F__law_draw.kp T.B__law_draw (passes_call (takes_of rfl rfl rfl rfl) fun _ _ _ _ h => h) mFun_len (acons (gv (pv 0)) (acons gint anil))) (fun _ _ => rfl))))
  (xone (xret (gtuple rfl rfl T.z_tuple (acons (gsortA rfl rfl T.z_sorted (acons (gadd rfl (glist rfl rfl T.z_list (acons (gv (pv 1)) anil)) (glst (acons (gv (pv 4)) anil))) anil)) anil))))) xnil)
  (xcons (xif (tcmp (op_eqG hu) (br_eqD false) (gv (pv 2)) gint (nomark _)) (xone (xret (gadd rfl (gtup (acons gbl anil)) (gsl rfl (gv (pv 1)) (osome gint) onone)))) xnil)
  (xcons (xif (tcmp (op_eqG hu) (br_eqD false) (gv (pv 2)) gint (nomark _)) (xone (xret (gadd rfl (gadd rfl (gsl rfl (gv (pv 1)) onone (osome (gv (pv 3)))) (gtup (acons (gix rfl (glst (acons gstr (acons gnon (acons (gtup (acons gint anil)) (acons (glst (acons gint anil)) (acons (gtup anil) anil)))))) (gcall (ok__law_draw T) (hr.mono (by decide)) rfl T.g__law_draw T.F__law_draw.kp T.B__law_draw (passes_call (takes_of rfl rfl rfl rfl) fun _ _ _ _ h => h) mFun_len (acons (gv (pv 0)) (acons gint anil))) (fun _ _ => rfl)) anil))) (gsl rfl (gv (pv 1)) (osome (gv (pv 3))) onone)))) xnil)
  (xcons (xif (tcmp (op_eqG hu) (br_eqD false) (gv (pv 2)) gint (nomark _)) (xone (xret (gadd rfl (gadd rfl (gsl rfl (gv (pv 1)) onone (osome (gv (pv 3)))) (gtup (acons (gcall (ok__law_draw T) (hr.mono (by decide)) rfl T.g__law_draw T.F__law_draw.kp T.B__law_draw (passes_call (takes_of rfl rfl rfl rfl) fun _ _ _ _ h => h) mFun_len (acons (gv (pv 0)) (acons gint anil))) anil))) (gsl rfl (gv (pv 1)) (osome (gadd rfl (gv (pv 3)) gint)) onone)))) xnil)
  (xcons (xif (tcmp (op_eqG hu) (br_eqD false) (gv (pv 2)) gint (nomark _)) (xone (xret (gtup (acons (gv (pv 1)) anil)))) xnil)
  (xone (xret (gix rfl (glst (acons gnon (acons gbl (acons gint (acons gstr (acons gstr (acons gdnew (acons (gdlit (gpcons gint gint gpnil) rfl rfl (by simp) (by decide)) anil)))))))) (gcall (ok__law_draw T) (hr.mono (by decide)) rfl T.g__law_draw T.F__law_draw.kp T.B__law_draw (passes_call (takes_of rfl rfl rfl rfl) fun _ _ _ _ h => h) mFun_len (acons (gv (pv 0)) (acons gint anil))) (fun _ _ => rfl))))))))))))))
theorem ok_law (T : Txt C.K mg) : FnOk P w C.K mg base (L2.CX P w) 9 T.f_law T.d_law P_law (spM C 1 m_law) :=
  fnok T.F_law sc_law fun cdv A outer s H E hr => by
    have hu := hr.units
    have hu65 := hu65_of hr
    exact (xcons (xset (ps_set (i := 1) sc_law.nd rfl (.inl rfl) (gcall (ok__law_bag T) (hr.mono (by decide)) rfl T.g__law_bag T.F__law_bag.kp T.B__law_bag (passes_call (takes_of rfl rfl rfl rfl) fun _ _ _ _ h => h) mFun_len (acons (gv (pv 0)) anil))))
  (xcons (xset (ps_set (i := 2) sc_law.nd rfl (.inl rfl) (gcall (ok__law_versions T) (hr.mono (by decide)) rfl T.g__law_versions T.F__law_versions.kp T.B__law_versions (passes_call (takes_of rfl rfl rfl rfl) fun _ _ _ _ h => h) mFun_len (acons (gv (pv 1)) anil))))
  (xcons (xset (ps_set (i := 3) sc_law.nd rfl (.inl rfl) gint))
  (xcons (xif (tcmp (op_gt) br_cmp (glen rfl rfl T.z_len (acons (gv (pv 2)) anil)) gint (nomark _)) (xone (xset (ps_set (i := 3) sc_law.nd rfl (.inl rfl) (gix rfl (gix rfl (gv (pv 2)) gint (fun _ _ => rfl)) gint (fun _ _ => rfl))))) xnil)
  (xcons (xset (ps_set (i := 3) sc_law.nd rfl (.inl rfl) (gadd rfl (gv (pv 3)) (gcall (ok__law_draw T) (hr.mono (by decide)) rfl T.g__law_draw T.F__law_draw.kp T.B__law_draw (passes_call (takes_of rfl rfl rfl rfl) fun _ _ _ _ h => h) mFun_len (acons (gv (pv 1)) (acons gint anil))))))
  (xcons (xset (ps_set (i := 4) sc_law.nd rfl (.inl rfl) (gcall (ok__law_open T) (hr.mono (by decide)) rfl T.g__law_open T.F__law_open.kp T.B__law_open (passes_call (takes_of rfl rfl rfl rfl) fun _ _ _ _ h => h) mFun_len (acons (gv (pv 1)) (acons (gv (pv 2)) (acons (gv (pv 3)) anil))))))
  (xcons (xset (ps_set (i := 5) sc_law.nd rfl (.inl rfl) (gcall (ok__law_needed T) (hr.mono (by decide)) rfl T.g__law_needed T.F__law_needed.kp T.B__law_needed (passes_call (takes_of rfl rfl rfl rfl) fun _ _ _ _ h => h) mFun_len (acons (gv (pv 2)) (acons (gv (pv 4)) anil)))))
  (xcons (xset (ps_set (i := 6) sc_law.nd rfl (.inl rfl) (gadd rfl (glist rfl rfl T.z_list (acons (gv (pv 4)) anil)) (glst (acons (gv (pv 3)) (acons (gadd rfl (gadd rfl (gv (pv 3)) gint) (gcall (ok__law_draw T) (hr.mono (by decide)) rfl T.g__law_draw T.F__law_draw.kp T.B__law_draw (passes_call (takes_of rfl rfl rfl rfl) fun _ _ _ _ h => h) mFun_len (acons (gv (pv 1)) (acons gint anil)))) anil))))))
  (xcons (xset (ps_set (i := 7) sc_law.nd rfl (.inl rfl) (gcall (ok_needed T) (hr.mono (by decide)) rfl T.g_needed T.F_needed.kp T.B_needed (passes_call (takes_of rfl rfl rfl rfl) fun _ _ _ _ h => h) mFun_len (acons (glist rfl rfl T.z_list (acons (gv (pv 2)) anil)) (acons (gv (pv 4)) (acons (gv (pv 3)) anil))))))
  (xcons (xif (PW.pt (wor (tnot (tcv (gcall (ok__law_is_enough T) (hr.mono (by decide)) rfl T.g__law_is_enough T.F__law_is_enough.kp T.B__law_is_enough (passes_call (takes_of rfl rfl rfl rfl) fun _ _ _ _ h => h) mFun_len (acons (gv (pv 2)) (acons (gv (pv 6)) (acons (gv (pv 7)) anil)))))) (wor1 (tcmp op_notBl br_notB (gcall (ok_is_kept_right T) (hr.mono (by decide)) rfl T.g_is_kept_right T.F_is_kept_right.kp T.B_is_kept_right (passes_call (takes_of rfl rfl rfl rfl) fun _ _ _ _ h => h) mFun_len (acons (gtuple rfl rfl T.z_tuple (acons (gv (pv 2)) anil)) (acons (gv (pv 4)) (acons (gv (pv 3)) (acons (gv (pv 7)) anil))))) gbl (nomark _))))) (xone (xret gbl)) xnil)
  (xcons (xfor (vs := [8]) (passes_of rfl) rfl (grange1 rfl T.z_range (acons gint anil)) (tgname (pg_name (i := 8) sc_law.nd rfl (by first | exact .inl rfl | exact .inr rfl)) (by decide)) (xcons (xset (ps_set (i := 9) sc_law.nd rfl (.inl rfl) (gcall (ok__law_lot T) (hr.mono (by decide)) rfl T.g__law_lot T.F__law_lot.kp T.B__law_lot (passes_call (takes_of rfl rfl rfl rfl) fun _ _ _ _ h => h) mFun_len (acons (gv (pv 1)) (acons (gv (pv 2)) (acons (gv (pv 5)) anil))))))
  (xcons (xif (tcmp (op_eqG hu) (br_eqD false) (gcall (ok__law_draw T) (hr.mono (by decide)) rfl T.g__law_draw T.F__law_draw.kp T.B__law_draw (passes_call (takes_of rfl rfl rfl rfl) fun _ _ _ _ h => h) mFun_len (acons (gv (pv 1)) (acons gint anil))) gint (nomark _)) (xone (xset (ps_set (i := 9) sc_law.nd rfl (.inl rfl) (gcall (ok__law_no_lot T) (hr.mono (by decide)) rfl T.g__law_no_lot T.F__law_no_lot.kp T.B__law_no_lot (passes_call (takes_of rfl rfl rfl rfl) fun _ _ _ _ h => h) mFun_len (acons (gv (pv 1)) (acons (gv (pv 9)) anil)))))) xnil)
  (xcons (xset (ps_set (i := 10) sc_law.nd rfl (.inl rfl) (glist rfl rfl T.z_list (acons (gv (pv 2)) anil))))
  (xcons (xset (ps_set (i := 11) sc_law.nd rfl (.inl rfl) (gcall (ok_is_kept_right T) (hr.mono (by decide)) rfl T.g_is_kept_right T.F_is_kept_right.kp T.B_is_kept_right (passes_call (takes_of rfl rfl rfl rfl) fun _ _ _ _ h => h) mFun_len (acons (gv (pv 10)) (acons (gv (pv 4)) (acons (gv (pv 3)) (acons (gv (pv 9)) anil)))))))
  (xcons (xif (PW.pt (wor (tcmp (op_neG hu) (br_eqD true) (gv (pv 10)) (gv (pv 2)) (nomark _)) (wor (tnot (tcv (gisi rfl rfl T.z_isinstance (gv (pv 11)) (pe_bltn rfl T.z_bool (by decide +kernel) rfl)))) (wor1 (tcmp (op_neG hu) (br_eqD true) (gv (pv 11)) (gcall (ok__law_is_enough T) (hr.mono (by decide)) rfl T.g__law_is_enough T.F__law_is_enough.kp T.B__law_is_enough (passes_call (takes_of rfl rfl rfl rfl) fun _ _ _ _ h => h) mFun_len (acons (gv (pv 2)) (acons (gv (pv 6)) (acons (gv (pv 9)) anil)))) (nomark _)))))) (xone (xret gbl)) xnil)
  (xone (xif (tcv (gv (pv 11))) (xone (xfor (vs := [12]) (passes_of rfl) rfl (gseq rfl (gv (pv 7))) (tgname (pg_name (i := 12) sc_law.nd rfl (by first | exact .inl rfl | exact .inr rfl)) (by decide)) (xone (xif (tcmp (op_notInA hu65) (br_in true) (gv (pv 12)) (gv (pv 9)) (by rfl)) (xone (xret gbl)) xnil)))) xnil))))))))
  (xone (xret gbl)))))))))))))
end
end Lk73
end
section
set_option Elab.async false
set_option linter.all false
set_option maxRecDepth 100000
set_option maxHeartbeats 4000000
namespace Lk73
open PySem L2 G
theorem all_mk {l : PySem.W.OpenLaw} {w : World} {K : PySem.W.Frag} {h : Heap} {mg : Str → Option Value} {fa : Addr} (X : K.In h) (G : h.Ns mainGlobals mg) (hfa : mg "law" = some (.ref fa))
    {f0 : Addr} {od0 an0 : Option Addr} {sl0 : Array (Option Value)} {oc0 kV0 dc0 pm0 cd0 ct0 : Value}
    (a0 : PySem.W.nsIn K mainGlobals "_law_bag" = some (some (.ref f0))) (l0 : K.lookup f0 = some ⟨oc0, od0, .func (PySem.W.fnOf "_law_bag" "_law_bag" (defArgs s__law_bag) (defBody s__law_bag) (defScope s__law_bag) .none kV0 dc0 pm0 an0 cd0 ct0), sl0⟩) (c0 : PySem.W.codeIn K cd0 "_law_bag" = true) (k0 : PySem.W.keepIn K (.ref f0) = true)
    {f1 : Addr} {od1 an1 : Option Addr} {sl1 : Array (Option Value)} {oc1 kV1 dc1 pm1 cd1 ct1 : Value}
    (a1 : PySem.W.nsIn K mainGlobals "_law_mixed" = some (some (.ref f1))) (l1 : K.lookup f1 = some ⟨oc1, od1, .func (PySem.W.fnOf "_law_mixed" "_law_mixed" (defArgs s__law_mixed) (defBody s__law_mixed) (defScope s__law_mixed) .none kV1 dc1 pm1 an1 cd1 ct1), sl1⟩) (c1 : PySem.W.codeIn K cd1 "_law_mixed" = true) (k1 : PySem.W.keepIn K (.ref f1) = true)
    {f2 : Addr} {od2 an2 : Option Addr} {sl2 : Array (Option Value)} {oc2 kV2 dc2 pm2 cd2 ct2 : Value}
    (a2 : PySem.W.nsIn K mainGlobals "_law_draw" = some (some (.ref f2))) (l2 : K.lookup f2 = some ⟨oc2, od2, .func (PySem.W.fnOf "_law_draw" "_law_draw" (defArgs s__law_draw) (defBody s__law_draw) (defScope s__law_draw) .none kV2 dc2 pm2 an2 cd2 ct2), sl2⟩) (c2 : PySem.W.codeIn K cd2 "_law_draw" = true) (k2 : PySem.W.keepIn K (.ref f2) = true)
    {f3 : Addr} {od3 an3 : Option Addr} {sl3 : Array (Option Value)} {oc3 kV3 dc3 pm3 cd3 ct3 : Value}
    (a3 : PySem.W.nsIn K mainGlobals "_law_versions" = some (some (.ref f3))) (l3 : K.lookup f3 = some ⟨oc3, od3, .func (PySem.W.fnOf "_law_versions" "_law_versions" (defArgs s__law_versions) (defBody s__law_versions) (defScope s__law_versions) .none kV3 dc3 pm3 an3 cd3 ct3), sl3⟩) (c3 : PySem.W.codeIn K cd3 "_law_versions" = true) (k3 : PySem.W.keepIn K (.ref f3) = true)
    {f4 : Addr} {od4 an4 : Option Addr} {sl4 : Array (Option Value)} {oc4 kV4 dc4 pm4 cd4 ct4 : Value}
    (a4 : PySem.W.nsIn K mainGlobals "_law_open" = some (some (.ref f4))) (l4 : K.lookup f4 = some ⟨oc4, od4, .func (PySem.W.fnOf "_law_open" "_law_open" (defArgs s__law_open) (defBody s__law_open) (defScope s__law_open) .none kV4 dc4 pm4 an4 cd4 ct4), sl4⟩) (c4 : PySem.W.codeIn K cd4 "_law_open" = true) (k4 : PySem.W.keepIn K (.ref f4) = true)
    {f5 : Addr} {od5 an5 : Option Addr} {sl5 : Array (Option Value)} {oc5 kV5 dc5 pm5 cd5 ct5 : Value}
    (a5 : PySem.W.nsIn K mainGlobals "_law_needed" = some (some (.ref f5))) (l5 : K.lookup f5 = some ⟨oc5, od5, .func (PySem.W.fnOf "_law_needed" "_law_needed" (defArgs s__law_needed) (defBody s__law_needed) (defScope s__law_needed) .none kV5 dc5 pm5 an5 cd5 ct5), sl5⟩) (c5 : PySem.W.codeIn K cd5 "_law_needed" = true) (k5 : PySem.W.keepIn K (.ref f5) = true)
    {f6 : Addr} {od6 an6 : Option Addr} {sl6 : Array (Option Value)} {oc6 kV6 dc6 pm6 cd6 ct6 : Value}
    (a6 : PySem.W.nsIn K mainGlobals "is_pair" = some (some (.ref f6))) (l6 : K.lookup f6 = some ⟨oc6, od6, .func (PySem.W.fnOf "is_pair" "is_pair" (defArgs s_is_pair) (defBody s_is_pair) (defScope s_is_pair) .none kV6 dc6 pm6 an6 cd6 ct6), sl6⟩) (c6 : PySem.W.codeIn K cd6 "is_pair" = true) (k6 : PySem.W.keepIn K (.ref f6) = true)
    {f7 : Addr} {od7 an7 : Option Addr} {sl7 : Array (Option Value)} {oc7 kV7 dc7 pm7 cd7 ct7 : Value}
    (a7 : PySem.W.nsIn K mainGlobals "is_integer" = some (some (.ref f7))) (l7 : K.lookup f7 = some ⟨oc7, od7, .func (PySem.W.fnOf "is_integer" "is_integer" (defArgs s_is_integer) (defBody s_is_integer) (defScope s_is_integer) .none kV7 dc7 pm7 an7 cd7 ct7), sl7⟩) (c7 : PySem.W.codeIn K cd7 "is_integer" = true) (k7 : PySem.W.keepIn K (.ref f7) = true)
    {f8 : Addr} {od8 an8 : Option Addr} {sl8 : Array (Option Value)} {oc8 kV8 dc8 pm8 cd8 ct8 : Value}
    (a8 : PySem.W.nsIn K mainGlobals "is_within" = some (some (.ref f8))) (l8 : K.lookup f8 = some ⟨oc8, od8, .func (PySem.W.fnOf "is_within" "is_within" (defArgs s_is_within) (defBody s_is_within) (defScope s_is_within) .none kV8 dc8 pm8 an8 cd8 ct8), sl8⟩) (c8 : PySem.W.codeIn K cd8 "is_within" = true) (k8 : PySem.W.keepIn K (.ref f8) = true)
    {f9 : Addr} {od9 an9 : Option Addr} {sl9 : Array (Option Value)} {oc9 kV9 dc9 pm9 cd9 ct9 : Value}
    (a9 : PySem.W.nsIn K mainGlobals "is_commit" = some (some (.ref f9))) (l9 : K.lookup f9 = some ⟨oc9, od9, .func (PySem.W.fnOf "is_commit" "is_commit" (defArgs s_is_commit) (defBody s_is_commit) (defScope s_is_commit) .none kV9 dc9 pm9 an9 cd9 ct9), sl9⟩) (c9 : PySem.W.codeIn K cd9 "is_commit" = true) (k9 : PySem.W.keepIn K (.ref f9) = true)
    {f10 : Addr} {od10 an10 : Option Addr} {sl10 : Array (Option Value)} {oc10 kV10 dc10 pm10 cd10 ct10 : Value}
    (a10 : PySem.W.nsIn K mainGlobals "is_worth" = some (some (.ref f10))) (l10 : K.lookup f10 = some ⟨oc10, od10, .func (PySem.W.fnOf "is_worth" "is_worth" (defArgs s_is_worth) (defBody s_is_worth) (defScope s_is_worth) .none kV10 dc10 pm10 an10 cd10 ct10), sl10⟩) (c10 : PySem.W.codeIn K cd10 "is_worth" = true) (k10 : PySem.W.keepIn K (.ref f10) = true)
    {f11 : Addr} {od11 an11 : Option Addr} {sl11 : Array (Option Value)} {oc11 kV11 dc11 pm11 cd11 ct11 : Value}
    (a11 : PySem.W.nsIn K mainGlobals "is_mark" = some (some (.ref f11))) (l11 : K.lookup f11 = some ⟨oc11, od11, .func (PySem.W.fnOf "is_mark" "is_mark" (defArgs s_is_mark) (defBody s_is_mark) (defScope s_is_mark) .none kV11 dc11 pm11 an11 cd11 ct11), sl11⟩) (c11 : PySem.W.codeIn K cd11 "is_mark" = true) (k11 : PySem.W.keepIn K (.ref f11) = true)
    {f12 : Addr} {od12 an12 : Option Addr} {sl12 : Array (Option Value)} {oc12 kV12 dc12 pm12 cd12 ct12 : Value}
    (a12 : PySem.W.nsIn K mainGlobals "check_versions" = some (some (.ref f12))) (l12 : K.lookup f12 = some ⟨oc12, od12, .func (PySem.W.fnOf "check_versions" "check_versions" (defArgs s_check_versions) (defBody s_check_versions) (defScope s_check_versions) .none kV12 dc12 pm12 an12 cd12 ct12), sl12⟩) (c12 : PySem.W.codeIn K cd12 "check_versions" = true) (k12 : PySem.W.keepIn K (.ref f12) = true)
    {f13 : Addr} {od13 an13 : Option Addr} {sl13 : Array (Option Value)} {oc13 kV13 dc13 pm13 cd13 ct13 : Value}
    (a13 : PySem.W.nsIn K mainGlobals "check_last" = some (some (.ref f13))) (l13 : K.lookup f13 = some ⟨oc13, od13, .func (PySem.W.fnOf "check_last" "check_last" (defArgs s_check_last) (defBody s_check_last) (defScope s_check_last) .none kV13 dc13 pm13 an13 cd13 ct13), sl13⟩) (c13 : PySem.W.codeIn K cd13 "check_last" = true) (k13 : PySem.W.keepIn K (.ref f13) = true)
    {f14 : Addr} {od14 an14 : Option Addr} {sl14 : Array (Option Value)} {oc14 kV14 dc14 pm14 cd14 ct14 : Value}
    (a14 : PySem.W.nsIn K mainGlobals "is_lot" = some (some (.ref f14))) (l14 : K.lookup f14 = some ⟨oc14, od14, .func (PySem.W.fnOf "is_lot" "is_lot" (defArgs s_is_lot) (defBody s_is_lot) (defScope s_is_lot) .none kV14 dc14 pm14 an14 cd14 ct14), sl14⟩) (c14 : PySem.W.codeIn K cd14 "is_lot" = true) (k14 : PySem.W.keepIn K (.ref f14) = true)
    {f15 : Addr} {od15 an15 : Option Addr} {sl15 : Array (Option Value)} {oc15 kV15 dc15 pm15 cd15 ct15 : Value}
    (a15 : PySem.W.nsIn K mainGlobals "check_open" = some (some (.ref f15))) (l15 : K.lookup f15 = some ⟨oc15, od15, .func (PySem.W.fnOf "check_open" "check_open" (defArgs s_check_open) (defBody s_check_open) (defScope s_check_open) .none kV15 dc15 pm15 an15 cd15 ct15), sl15⟩) (c15 : PySem.W.codeIn K cd15 "check_open" = true) (k15 : PySem.W.keepIn K (.ref f15) = true)
    {f16 : Addr} {od16 an16 : Option Addr} {sl16 : Array (Option Value)} {oc16 kV16 dc16 pm16 cd16 ct16 : Value}
    (a16 : PySem.W.nsIn K mainGlobals "check_asked" = some (some (.ref f16))) (l16 : K.lookup f16 = some ⟨oc16, od16, .func (PySem.W.fnOf "check_asked" "check_asked" (defArgs s_check_asked) (defBody s_check_asked) (defScope s_check_asked) .none kV16 dc16 pm16 an16 cd16 ct16), sl16⟩) (c16 : PySem.W.codeIn K cd16 "check_asked" = true) (k16 : PySem.W.keepIn K (.ref f16) = true)
    {f17 : Addr} {od17 an17 : Option Addr} {sl17 : Array (Option Value)} {oc17 kV17 dc17 pm17 cd17 ct17 : Value}
    (a17 : PySem.W.nsIn K mainGlobals "asked_of" = some (some (.ref f17))) (l17 : K.lookup f17 = some ⟨oc17, od17, .func (PySem.W.fnOf "asked_of" "asked_of" (defArgs s_asked_of) (defBody s_asked_of) (defScope s_asked_of) .none kV17 dc17 pm17 an17 cd17 ct17), sl17⟩) (c17 : PySem.W.codeIn K cd17 "asked_of" = true) (k17 : PySem.W.keepIn K (.ref f17) = true)
    {f18 : Addr} {od18 an18 : Option Addr} {sl18 : Array (Option Value)} {oc18 kV18 dc18 pm18 cd18 ct18 : Value}
    (a18 : PySem.W.nsIn K mainGlobals "seen_of" = some (some (.ref f18))) (l18 : K.lookup f18 = some ⟨oc18, od18, .func (PySem.W.fnOf "seen_of" "seen_of" (defArgs s_seen_of) (defBody s_seen_of) (defScope s_seen_of) .none kV18 dc18 pm18 an18 cd18 ct18), sl18⟩) (c18 : PySem.W.codeIn K cd18 "seen_of" = true) (k18 : PySem.W.keepIn K (.ref f18) = true)
    {f19 : Addr} {od19 an19 : Option Addr} {sl19 : Array (Option Value)} {oc19 kV19 dc19 pm19 cd19 ct19 : Value}
    (a19 : PySem.W.nsIn K mainGlobals "needed_of" = some (some (.ref f19))) (l19 : K.lookup f19 = some ⟨oc19, od19, .func (PySem.W.fnOf "needed_of" "needed_of" (defArgs s_needed_of) (defBody s_needed_of) (defScope s_needed_of) .none kV19 dc19 pm19 an19 cd19 ct19), sl19⟩) (c19 : PySem.W.codeIn K cd19 "needed_of" = true) (k19 : PySem.W.keepIn K (.ref f19) = true)
    {f20 : Addr} {od20 an20 : Option Addr} {sl20 : Array (Option Value)} {oc20 kV20 dc20 pm20 cd20 ct20 : Value}
    (a20 : PySem.W.nsIn K mainGlobals "needed" = some (some (.ref f20))) (l20 : K.lookup f20 = some ⟨oc20, od20, .func (PySem.W.fnOf "needed" "needed" (defArgs s_needed) (defBody s_needed) (defScope s_needed) .none kV20 dc20 pm20 an20 cd20 ct20), sl20⟩) (c20 : PySem.W.codeIn K cd20 "needed" = true) (k20 : PySem.W.keepIn K (.ref f20) = true)
    {f21 : Addr} {od21 an21 : Option Addr} {sl21 : Array (Option Value)} {oc21 kV21 dc21 pm21 cd21 ct21 : Value}
    (a21 : PySem.W.nsIn K mainGlobals "_law_is_lot" = some (some (.ref f21))) (l21 : K.lookup f21 = some ⟨oc21, od21, .func (PySem.W.fnOf "_law_is_lot" "_law_is_lot" (defArgs s__law_is_lot) (defBody s__law_is_lot) (defScope s__law_is_lot) .none kV21 dc21 pm21 an21 cd21 ct21), sl21⟩) (c21 : PySem.W.codeIn K cd21 "_law_is_lot" = true) (k21 : PySem.W.keepIn K (.ref f21) = true)
    {f22 : Addr} {od22 an22 : Option Addr} {sl22 : Array (Option Value)} {oc22 kV22 dc22 pm22 cd22 ct22 : Value}
    (a22 : PySem.W.nsIn K mainGlobals "_law_seen" = some (some (.ref f22))) (l22 : K.lookup f22 = some ⟨oc22, od22, .func (PySem.W.fnOf "_law_seen" "_law_seen" (defArgs s__law_seen) (defBody s__law_seen) (defScope s__law_seen) .none kV22 dc22 pm22 an22 cd22 ct22), sl22⟩) (c22 : PySem.W.codeIn K cd22 "_law_seen" = true) (k22 : PySem.W.keepIn K (.ref f22) = true)
    {f23 : Addr} {od23 an23 : Option Addr} {sl23 : Array (Option Value)} {oc23 kV23 dc23 pm23 cd23 ct23 : Value}
    (a23 : PySem.W.nsIn K mainGlobals "_law_is_enough" = some (some (.ref f23))) (l23 : K.lookup f23 = some ⟨oc23, od23, .func (PySem.W.fnOf "_law_is_enough" "_law_is_enough" (defArgs s__law_is_enough) (defBody s__law_is_enough) (defScope s__law_is_enough) .none kV23 dc23 pm23 an23 cd23 ct23), sl23⟩) (c23 : PySem.W.codeIn K cd23 "_law_is_enough" = true) (k23 : PySem.W.keepIn K (.ref f23) = true)
    {f24 : Addr} {od24 an24 : Option Addr} {sl24 : Array (Option Value)} {oc24 kV24 dc24 pm24 cd24 ct24 : Value}
    (a24 : PySem.W.nsIn K mainGlobals "is_kept_right" = some (some (.ref f24))) (l24 : K.lookup f24 = some ⟨oc24, od24, .func (PySem.W.fnOf "is_kept_right" "is_kept_right" (defArgs s_is_kept_right) (defBody s_is_kept_right) (defScope s_is_kept_right) .none kV24 dc24 pm24 an24 cd24 ct24), sl24⟩) (c24 : PySem.W.codeIn K cd24 "is_kept_right" = true) (k24 : PySem.W.keepIn K (.ref f24) = true)
    {f25 : Addr} {od25 an25 : Option Addr} {sl25 : Array (Option Value)} {oc25 kV25 dc25 pm25 cd25 ct25 : Value}
    (a25 : PySem.W.nsIn K mainGlobals "_law_some" = some (some (.ref f25))) (l25 : K.lookup f25 = some ⟨oc25, od25, .func (PySem.W.fnOf "_law_some" "_law_some" (defArgs s__law_some) (defBody s__law_some) (defScope s__law_some) .none kV25 dc25 pm25 an25 cd25 ct25), sl25⟩) (c25 : PySem.W.codeIn K cd25 "_law_some" = true) (k25 : PySem.W.keepIn K (.ref f25) = true)
    {f26 : Addr} {od26 an26 : Option Addr} {sl26 : Array (Option Value)} {oc26 kV26 dc26 pm26 cd26 ct26 : Value}
    (a26 : PySem.W.nsIn K mainGlobals "_law_lot" = some (some (.ref f26))) (l26 : K.lookup f26 = some ⟨oc26, od26, .func (PySem.W.fnOf "_law_lot" "_law_lot" (defArgs s__law_lot) (defBody s__law_lot) (defScope s__law_lot) .none kV26 dc26 pm26 an26 cd26 ct26), sl26⟩) (c26 : PySem.W.codeIn K cd26 "_law_lot" = true) (k26 : PySem.W.keepIn K (.ref f26) = true)
    {f27 : Addr} {od27 an27 : Option Addr} {sl27 : Array (Option Value)} {oc27 kV27 dc27 pm27 cd27 ct27 : Value}
    (a27 : PySem.W.nsIn K mainGlobals "_law_no_lot" = some (some (.ref f27))) (l27 : K.lookup f27 = some ⟨oc27, od27, .func (PySem.W.fnOf "_law_no_lot" "_law_no_lot" (defArgs s__law_no_lot) (defBody s__law_no_lot) (defScope s__law_no_lot) .none kV27 dc27 pm27 an27 cd27 ct27), sl27⟩) (c27 : PySem.W.codeIn K cd27 "_law_no_lot" = true) (k27 : PySem.W.keepIn K (.ref f27) = true)
    {f28 : Addr} {od28 an28 : Option Addr} {sl28 : Array (Option Value)} {oc28 kV28 dc28 pm28 cd28 ct28 : Value}
    (a28 : PySem.W.nsIn K mainGlobals "law" = some (some (.ref f28))) (l28 : K.lookup f28 = some ⟨oc28, od28, .func (PySem.W.fnOf "law" "law" (defArgs s_law) (defBody s_law) (defScope s_law) .none kV28 dc28 pm28 an28 cd28 ct28), sl28⟩) (c28 : PySem.W.codeIn K cd28 "law" = true) (k28 : PySem.W.keepIn K (.ref f28) = true)
    {t0 : Tok} (q0 : PySem.W.nsIn K mainGlobals "MOST_WORTH" = some (some (.int (1000000000000000000) t0)))
    (z_abs : PySem.W.nsIn K mainGlobals "abs" = some none)
    (z_all : PySem.W.nsIn K mainGlobals "all" = some none)
    (z_bool : PySem.W.nsIn K mainGlobals "bool" = some none)
    (z_enumerate : PySem.W.nsIn K mainGlobals "enumerate" = some none)
    (z_int : PySem.W.nsIn K mainGlobals "int" = some none)
    (z_isinstance : PySem.W.nsIn K mainGlobals "isinstance" = some none)
    (z_len : PySem.W.nsIn K mainGlobals "len" = some none)
    (z_list : PySem.W.nsIn K mainGlobals "list" = some none)
    (z_max : PySem.W.nsIn K mainGlobals "max" = some none)
    (z_min : PySem.W.nsIn K mainGlobals "min" = some none)
    (z_range : PySem.W.nsIn K mainGlobals "range" = some none)
    (z_sorted : PySem.W.nsIn K mainGlobals "sorted" = some none)
    (z_tuple : PySem.W.nsIn K mainGlobals "tuple" = some none) :
    ∃ fd : FuncData, (∀ (s : Shared) (v : Value), BindsTo s fd ⟨[v], []⟩ [("_law_script", v)]) ∧ ∀ base : Heap, K.In base → base.Ns mainGlobals mg → FnOk l.prog w K mg base (L2.CX l.prog w) 9 fa fd P_law (spM ⟨K, fun _ => none⟩ 1 m_law) := by
  have e := hfa.symm.trans (PySem.W.mg_of X G a28)
  cases e
  have F0 := fun_mk (st := s__law_bag) l0 c0 k0
  have b0 := F0.binds (ps := P__law_bag) fun _ _ _ _ _ _ us hl => match us, hl with | [_], _ => rfl
  have F1 := fun_mk (st := s__law_mixed) l1 c1 k1
  have b1 := F1.binds (ps := P__law_mixed) fun _ _ _ _ _ _ us hl => match us, hl with | [_, _], _ => rfl
  have F2 := fun_mk (st := s__law_draw) l2 c2 k2
  have b2 := F2.binds (ps := P__law_draw) fun _ _ _ _ _ _ us hl => match us, hl with | [_, _], _ => rfl
  have F3 := fun_mk (st := s__law_versions) l3 c3 k3
  have b3 := F3.binds (ps := P__law_versions) fun _ _ _ _ _ _ us hl => match us, hl with | [_], _ => rfl
  have F4 := fun_mk (st := s__law_open) l4 c4 k4
  have b4 := F4.binds (ps := P__law_open) fun _ _ _ _ _ _ us hl => match us, hl with | [_, _, _], _ => rfl
  have F5 := fun_mk (st := s__law_needed) l5 c5 k5
  have b5 := F5.binds (ps := P__law_needed) fun _ _ _ _ _ _ us hl => match us, hl with | [_, _], _ => rfl
  have F6 := fun_mk (st := s_is_pair) l6 c6 k6
  have b6 := F6.binds (ps := P_is_pair) fun _ _ _ _ _ _ us hl => match us, hl with | [_], _ => rfl
  have F7 := fun_mk (st := s_is_integer) l7 c7 k7
  have b7 := F7.binds (ps := P_is_integer) fun _ _ _ _ _ _ us hl => match us, hl with | [_], _ => rfl
  have F8 := fun_mk (st := s_is_within) l8 c8 k8
  have b8 := F8.binds (ps := P_is_within) fun _ _ _ _ _ _ us hl => match us, hl with | [_, _, _], _ => rfl
  have F9 := fun_mk (st := s_is_commit) l9 c9 k9
  have b9 := F9.binds (ps := P_is_commit) fun _ _ _ _ _ _ us hl => match us, hl with | [_], _ => rfl
  have F10 := fun_mk (st := s_is_worth) l10 c10 k10
  have b10 := F10.binds (ps := P_is_worth) fun _ _ _ _ _ _ us hl => match us, hl with | [_], _ => rfl
  have F11 := fun_mk (st := s_is_mark) l11 c11 k11
  have b11 := F11.binds (ps := P_is_mark) fun _ _ _ _ _ _ us hl => match us, hl with | [_], _ => rfl
  have F12 := fun_mk (st := s_check_versions) l12 c12 k12
  have b12 := F12.binds (ps := P_check_versions) fun _ _ _ _ _ _ us hl => match us, hl with | [_], _ => rfl
  have F13 := fun_mk (st := s_check_last) l13 c13 k13
  have b13 := F13.binds (ps := P_check_last) fun _ _ _ _ _ _ us hl => match us, hl with | [_, _], _ => rfl
  have F14 := fun_mk (st := s_is_lot) l14 c14 k14
  have b14 := F14.binds (ps := P_is_lot) fun _ _ _ _ _ _ us hl => match us, hl with | [_, _], _ => rfl
  have F15 := fun_mk (st := s_check_open) l15 c15 k15
  have b15 := F15.binds (ps := P_check_open) fun _ _ _ _ _ _ us hl => match us, hl with | [_, _], _ => rfl
  have F16 := fun_mk (st := s_check_asked) l16 c16 k16
  have b16 := F16.binds (ps := P_check_asked) fun _ _ _ _ _ _ us hl => match us, hl with | [_, _, _], _ => rfl
  have F17 := fun_mk (st := s_asked_of) l17 c17 k17
  have b17 := F17.binds (ps := P_asked_of) fun _ _ _ _ _ _ us hl => match us, hl with | [_, _], _ => rfl
  have F18 := fun_mk (st := s_seen_of) l18 c18 k18
  have b18 := F18.binds (ps := P_seen_of) fun _ _ _ _ _ _ us hl => match us, hl with | [_, _], _ => rfl
  have F19 := fun_mk (st := s_needed_of) l19 c19 k19
  have b19 := F19.binds (ps := P_needed_of) fun _ _ _ _ _ _ us hl => match us, hl with | [_, _, _], _ => rfl
  have F20 := fun_mk (st := s_needed) l20 c20 k20
  have b20 := F20.binds (ps := P_needed) fun _ _ _ _ _ _ us hl => match us, hl with | [_, _, _], _ => rfl
  have F21 := fun_mk (st := s__law_is_lot) l21 c21 k21
  have b21 := F21.binds (ps := P__law_is_lot) fun _ _ _ _ _ _ us hl => match us, hl with | [_, _], _ => rfl
  have F22 := fun_mk (st := s__law_seen) l22 c22 k22
  have b22 := F22.binds (ps := P__law_seen) fun _ _ _ _ _ _ us hl => match us, hl with | [_, _], _ => rfl
  have F23 := fun_mk (st := s__law_is_enough) l23 c23 k23
  have b23 := F23.binds (ps := P__law_is_enough) fun _ _ _ _ _ _ us hl => match us, hl with | [_, _, _], _ => rfl
  have F24 := fun_mk (st := s_is_kept_right) l24 c24 k24
  have b24 := F24.binds (ps := P_is_kept_right) fun _ _ _ _ _ _ us hl => match us, hl with | [_, _, _, _], _ => rfl
  have F25 := fun_mk (st := s__law_some) l25 c25 k25
  have b25 := F25.binds (ps := P__law_some) fun _ _ _ _ _ _ us hl => match us, hl with | [_, _, _], _ => rfl
  have F26 := fun_mk (st := s__law_lot) l26 c26 k26
  have b26 := F26.binds (ps := P__law_lot) fun _ _ _ _ _ _ us hl => match us, hl with | [_, _, _], _ => rfl
  have F27 := fun_mk (st := s__law_no_lot) l27 c27 k27
  have b27 := F27.binds (ps := P__law_no_lot) fun _ _ _ _ _ _ us hl => match us, hl with | [_, _], _ => rfl
  have F28 := fun_mk (st := s_law) l28 c28 k28
  have b28 := F28.binds (ps := P_law) fun _ _ _ _ _ _ us hl => match us, hl with | [_], _ => rfl
  refine ⟨_, fun s v => .of_eq rfl, fun base _ _ => ok_law (C := ⟨K, fun _ => none⟩) (T := ⟨_, _, F0, b0, PySem.W.mg_of X G a0, _, _, F1, b1, PySem.W.mg_of X G a1, _, _, F2, b2, PySem.W.mg_of X G a2, _, _, F3, b3, PySem.W.mg_of X G a3, _, _, F4, b4, PySem.W.mg_of X G a4, _, _, F5, b5, PySem.W.mg_of X G a5, _, _, F6, b6, PySem.W.mg_of X G a6, _, _, F7, b7, PySem.W.mg_of X G a7, _, _, F8, b8, PySem.W.mg_of X G a8, _, _, F9, b9, PySem.W.mg_of X G a9, _, _, F10, b10, PySem.W.mg_of X G a10, _, _, F11, b11, PySem.W.mg_of X G a11, _, _, F12, b12, PySem.W.mg_of X G a12, _, _, F13, b13, PySem.W.mg_of X G a13, _, _, F14, b14, PySem.W.mg_of X G a14, _, _, F15, b15, PySem.W.mg_of X G a15, _, _, F16, b16, PySem.W.mg_of X G a16, _, _, F17, b17, PySem.W.mg_of X G a17, _, _, F18, b18, PySem.W.mg_of X G a18, _, _, F19, b19, PySem.W.mg_of X G a19, _, _, F20, b20, PySem.W.mg_of X G a20, _, _, F21, b21, PySem.W.mg_of X G a21, _, _, F22, b22, PySem.W.mg_of X G a22, _, _, F23, b23, PySem.W.mg_of X G a23, _, _, F24, b24, PySem.W.mg_of X G a24, _, _, F25, b25, PySem.W.mg_of X G a25, _, _, F26, b26, PySem.W.mg_of X G a26, _, _, F27, b27, PySem.W.mg_of X G a27, _, _, F28, b28, PySem.W.mg_of X G a28, _, PySem.W.mg_of X G q0, PySem.W.mg_none_of X G z_abs, PySem.W.mg_none_of X G z_all, PySem.W.mg_none_of X G z_bool, PySem.W.mg_none_of X G z_enumerate, PySem.W.mg_none_of X G z_int, PySem.W.mg_none_of X G z_isinstance, PySem.W.mg_none_of X G z_len, PySem.W.mg_none_of X G z_list, PySem.W.mg_none_of X G z_max, PySem.W.mg_none_of X G z_min, PySem.W.mg_none_of X G z_range, PySem.W.mg_none_of X G z_sorted, PySem.W.mg_none_of X G z_tuple⟩)⟩
end Lk73
open PySem PySem.W PyProof.Rows
set_option maxRecDepth 100000 in
set_option maxHeartbeats 0 in
theorem PySem.Challenge.cw_wholecommits_k73_whole_lots_that_are_eno_holds : PySem.Challenge.rw_wholecommits_k73_whole_lots_that_are_eno.Holds := by
  w_on; o_law; k_head; (case hw => w_witness2)
  k_fill
  refine L2.walk_of (l := PySem.Challenge.rw_wholecommits_k73_whole_lots_that_are_eno) (n := 63) (k := 9) (x := "_law_script") (CX := fun w => L2.CX PySem.Challenge.rw_wholecommits_k73_whole_lots_that_are_eno.prog w) (sp := fun w => G.spM ⟨_, fun _ => none⟩ 1 Lk73.m_law) rfl (by decide) rfl ⟨rfl, by decide, by decide⟩ (fun w h Y => PySem.W.kIn_of Y) ?F (fun _ _ a ns hl ho hS => G.law_sp (C := ⟨_, fun _ => none⟩) ho hS (Lk73.law_true ns hl)) (fun _ _ _ _ _ h => G.cx_end h)
  case F =>
    intro w mg fa h KX G hmg
    refine' Lk73.all_mk KX G hmg ?a0 ?l0 ?c0 ?k0 ?a1 ?l1 ?c1 ?k1 ?a2 ?l2 ?c2 ?k2 ?a3 ?l3 ?c3 ?k3 ?a4 ?l4 ?c4 ?k4 ?a5 ?l5 ?c5 ?k5 ?a6 ?l6 ?c6 ?k6 ?a7 ?l7 ?c7 ?k7 ?a8 ?l8 ?c8 ?k8 ?a9 ?l9 ?c9 ?k9 ?a10 ?l10 ?c10 ?k10 ?a11 ?l11 ?c11 ?k11 ?a12 ?l12 ?c12 ?k12 ?a13 ?l13 ?c13 ?k13 ?a14 ?l14 ?c14 ?k14 ?a15 ?l15 ?c15 ?k15 ?a16 ?l16 ?c16 ?k16 ?a17 ?l17 ?c17 ?k17 ?a18 ?l18 ?c18 ?k18 ?a19 ?l19 ?c19 ?k19 ?a20 ?l20 ?c20 ?k20 ?a21 ?l21 ?c21 ?k21 ?a22 ?l22 ?c22 ?k22 ?a23 ?l23 ?c23 ?k23 ?a24 ?l24 ?c24 ?k24 ?a25 ?l25 ?c25 ?k25 ?a26 ?l26 ?c26 ?k26 ?a27 ?l27 ?c27 ?k27 ?a28 ?l28 ?c28 ?k28 ?q0 ?z_abs ?z_all ?z_bool ?z_enumerate ?z_int ?z_isinstance ?z_len ?z_list ?z_max ?z_min ?z_range ?z_sorted ?z_tuple
    (case a0 => k_is)
    (case l0 => k_is)
    (case c0 => k_is)
    (case k0 => k_is)
    (case a1 => k_is)
    (case l1 => k_is)
    (case c1 => k_is)
    (case k1 => k_is)
    (case a2 => k_is)
    (case l2 => k_is)
    (case c2 => k_is)
    (case k2 => k_is)
    (case a3 => k_is)
    (case l3 => k_is)
    (case c3 => k_is)
    (case k3 => k_is)
    (case a4 => k_is)
    (case l4 => k_is)
    (case c4 => k_is)
    (case k4 => k_is)
    (case a5 => k_is)
    (case l5 => k_is)
    (case c5 => k_is)
    (case k5 => k_is)
    (case a6 => k_is)
    (case l6 => k_is)
    (case c6 => k_is)
    (case k6 => k_is)
    (case a7 => k_is)
    (case l7 => k_is)
    (case c7 => k_is)
    (case k7 => k_is)
    (case a8 => k_is)
    (case l8 => k_is)
    (case c8 => k_is)
    (case k8 => k_is)
    (case a9 => k_is)
    (case l9 => k_is)
    (case c9 => k_is)
    (case k9 => k_is)
    (case a10 => k_is)
    (case l10 => k_is)
    (case c10 => k_is)
    (case k10 => k_is)
    (case a11 => k_is)
    (case l11 => k_is)
    (case c11 => k_is)
    (case k11 => k_is)
    (case a12 => k_is)
    (case l12 => k_is)
    (case c12 => k_is)
    (case k12 => k_is)
    (case a13 => k_is)
    (case l13 => k_is)
    (case c13 => k_is)
    (case k13 => k_is)
    (case a14 => k_is)
    (case l14 => k_is)
    (case c14 => k_is)
    (case k14 => k_is)
    (case a15 => k_is)
    (case l15 => k_is)
    (case c15 => k_is)
    (case k15 => k_is)
    (case a16 => k_is)
    (case l16 => k_is)
    (case c16 => k_is)
    (case k16 => k_is)
    (case a17 => k_is)
    (case l17 => k_is)
    (case c17 => k_is)
    (case k17 => k_is)
    (case a18 => k_is)
    (case l18 => k_is)
    (case c18 => k_is)
    (case k18 => k_is)
    (case a19 => k_is)
    (case l19 => k_is)
    (case c19 => k_is)
    (case k19 => k_is)
    (case a20 => k_is)
    (case l20 => k_is)
    (case c20 => k_is)
    (case k20 => k_is)
    (case a21 => k_is)
    (case l21 => k_is)
    (case c21 => k_is)
    (case k21 => k_is)
    (case a22 => k_is)
    (case l22 => k_is)
    (case c22 => k_is)
    (case k22 => k_is)
    (case a23 => k_is)
    (case l23 => k_is)
    (case c23 => k_is)
    (case k23 => k_is)
    (case a24 => k_is)
    (case l24 => k_is)
    (case c24 => k_is)
    (case k24 => k_is)
    (case a25 => k_is)
    (case l25 => k_is)
    (case c25 => k_is)
    (case k25 => k_is)
    (case a26 => k_is)
    (case l26 => k_is)
    (case c26 => k_is)
    (case k26 => k_is)
    (case a27 => k_is)
    (case l27 => k_is)
    (case c27 => k_is)
    (case k27 => k_is)
    (case a28 => k_is)
    (case l28 => k_is)
    (case c28 => k_is)
    (case k28 => k_is)
    (case q0 => k_is)
    (case z_abs => k_is)
    (case z_all => k_is)
    (case z_bool => k_is)
    (case z_enumerate => k_is)
    (case z_int => k_is)
    (case z_isinstance => k_is)
    (case z_len => k_is)
    (case z_list => k_is)
    (case z_max => k_is)
    (case z_min => k_is)
    (case z_range => k_is)
    (case z_sorted => k_is)
    (case z_tuple => k_is)
end
