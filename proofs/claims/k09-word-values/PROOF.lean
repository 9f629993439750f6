import PyProof.Rows.All
import HandS.ForMost
import HandS.ForExc
import HandS.Walk
import HandS.Flow
import HandS.Zip
import HandS.Conv
import HandS.NoneIn
import HandS.More
import HandS.StrMore
import HandS.SortInts
import HandS.Wide
import HandS.WideMore
import HandS.RevRange
import HandS.IsInst
import HandS.Defaults
import HandS.TupAny
import HandS.WideBits
import HandS.Steps
import HandS.Head0
import HandS.Head1
import HandS.Head2
import HandS.HeadEnd
import HandS.HeadHook1
import HandS.HeadHook2
import KE.DataMinMax
import KE.SortData
import HandS.TupMul
import KE.KBits
import KE.BitLaws
import PySem.Challenge.RW_wiredossier_k09_word_values
set_option Elab.async false
set_option linter.all false
set_option maxRecDepth 100000
set_option maxHeartbeats 0
/-! Ow: a layer over HandS. A def's body is read as a plain Lean program over data (PyData) with owned lists; the heap is dealt with once, here. -/
namespace Ow
open PySem L2
abbrev D := PyData
/-! ### data that stands still: lists and tuples of the abstract heap, at any depth; a list that is only known to be readable (the script) is told by a word of its own -/
abbrev scr (ds : List D) : D := .dict [(.none, .list ds)]
/-- a tuple that stands in the written part -/
abbrev kon (ds : List D) : D := .dict [(.bool true, .tuple ds)]
mutual
inductive Rp (K : PySem.W.Frag) (Z : Hp) : V → PyData → Prop
  | non : Rp K Z .non .none
  | bl (b : Bool) : Rp K Z (.bl b) (.bool b)
  | int (i : Int) : Rp K Z (.int i) (.int i)
  | str (x : Str) : Rp K Z (.str x) (.str x)
  | lst {a : Addr} {xs : List V} {ds : List PyData} : Z a = some (.lst xs) → RpAll K Z xs ds → Rp K Z (.ref a) (.list ds)
  | tup {a : Addr} {xs : List V} {ds : List PyData} : Z a = some (.tup xs) → RpAll K Z xs ds → Rp K Z (.ref a) (.tuple ds)
  | kon {a : Addr} {xs : List V} {ds : List PyData} : SqT K Z a xs → RpAll K Z xs ds → Rp K Z (.ref a) (kon ds)
  | frz {a : Addr} {xs : List V} {ds : List PyData} : SqL K Z a xs → RpAll K Z xs ds → Rp K Z (.ref a) (scr ds)
inductive RpAll (K : PySem.W.Frag) (Z : Hp) : List V → List PyData → Prop
  | nil : RpAll K Z [] []
  | cons {v : V} {vs : List V} {d : PyData} {ds : List PyData} : Rp K Z v d → RpAll K Z vs ds → RpAll K Z (v :: vs) (d :: ds)
end
theorem sqL_mono {K : PySem.W.Frag} {Z Z' : Hp} {a : Addr} {xs : List V} (e : Same Z Z') (h : SqL K Z a xs) : SqL K Z' a xs := e.seq h
theorem sqT_mono {K : PySem.W.Frag} {Z Z' : Hp} {a : Addr} {xs : List V} (e : Same Z Z') (h : SqT K Z a xs) : SqT K Z' a xs := by
  rcases h with (h | ⟨o, h⟩) | h
  · exact .inl (.inl (e _ _ h))
  · exact .inl (.inr ⟨o, e _ _ h⟩)
  · exact .inr h
section
variable {K : PySem.W.Frag} {Z Z' : Hp}
mutual
theorem Rp.mono {v : V} {d : D} (h : Rp K Z v d) (e : Same Z Z') : Rp K Z' v d := by
  cases h with
  | non => exact .non
  | bl b => exact .bl b
  | int i => exact .int i
  | str x => exact .str x
  | lst h1 h2 => exact .lst (e _ _ h1) (h2.mono e)
  | tup h1 h2 => exact .tup (e _ _ h1) (h2.mono e)
  | kon h1 h2 => exact .kon (sqT_mono e h1) (h2.mono e)
  | frz h1 h2 => exact .frz (sqL_mono e h1) (h2.mono e)
theorem RpAll.mono {vs : List V} {ds : List D} (h : RpAll K Z vs ds) (e : Same Z Z') : RpAll K Z' vs ds := by
  cases h with
  | nil => exact .nil
  | cons h1 h2 => exact .cons (h1.mono e) (h2.mono e)
end
mutual
theorem Rp.dp : ∀ {v : V} {d : D}, Rp K Z v d → d.canLay0 = true → Dp K Z v d
  | _, .none, h, _ => by cases h; exact .non
  | _, .bool b, h, _ => by cases h; exact .bl b
  | _, .int b, h, _ => by cases h; exact .int b
  | _, .str b, h, _ => by cases h; exact .str b
  | _, .list ds, h, c => by
    cases h with
    | lst h1 h2 => exact .lst (SqL.of h1) (RpAll.dp h2 (by simpa [PyData.canLay0] using c))
  | _, .tuple ds, h, c => by
    cases h with
    | tup h1 h2 => exact .tup (SqT.of h1) (RpAll.dp h2 (by simpa [PyData.canLay0] using c))
  | _, .dict _, _, c => by simp [PyData.canLay0] at c
theorem RpAll.dp : ∀ {vs : List V} {ds : List D}, RpAll K Z vs ds → PyData.canLayAll0 ds = true → DpAll K Z vs ds
  | _, [], h, _ => by cases h; exact .nil
  | _, d :: ds, h, c => by
    cases h with
    | cons h1 h2 =>
      have c' : d.canLay0 = true ∧ PyData.canLayAll0 ds = true := by simpa [PyData.canLayAll0] using c
      exact .cons (Rp.dp h1 c'.1) (RpAll.dp h2 c'.2)
end
end
theorem RpAll.length {K : PySem.W.Frag} {Z : Hp} : ∀ {vs : List V} {ds : List D}, RpAll K Z vs ds → vs.length = ds.length
  | _, _, .nil => rfl
  | _, _, .cons _ h => by simp [RpAll.length h]
theorem RpAll.get {K : PySem.W.Frag} {Z : Hp} : ∀ {vs : List V} {ds : List D} {i : Nat} {d : D}, RpAll K Z vs ds → ds[i]? = some d → ∃ v, vs[i]? = some v ∧ Rp K Z v d
  | _, _, _, _, .nil, e => by simp at e
  | _, _, 0, _, .cons h _, e => by simp at e; subst e; exact ⟨_, rfl, h⟩
  | _, _, i + 1, _, .cons _ h, e => by
    obtain ⟨v, q, r⟩ := RpAll.get (i := i) h (by simpa using e)
    exact ⟨v, by simpa using q, r⟩
theorem RpAll.get' {K : PySem.W.Frag} {Z : Hp} : ∀ {vs : List V} {ds : List D} {i : Nat} {v : V}, RpAll K Z vs ds → vs[i]? = some v → ∃ d, ds[i]? = some d ∧ Rp K Z v d
  | _, _, _, _, .nil, e => by simp at e
  | _, _, 0, _, .cons h _, e => by simp at e; subst e; exact ⟨_, rfl, h⟩
  | _, _, i + 1, _, .cons _ h, e => by
    obtain ⟨v, q, r⟩ := RpAll.get' (i := i) h (by simpa using e)
    exact ⟨v, by simpa using q, r⟩
theorem RpAll.append {K : PySem.W.Frag} {Z : Hp} : ∀ {vs ws : List V} {ds es : List D}, RpAll K Z vs ds → RpAll K Z ws es → RpAll K Z (vs ++ ws) (ds ++ es)
  | _, _, _, _, .nil, h => h
  | _, _, _, _, .cons q r, h => .cons q (RpAll.append r h)
theorem RpAll.take {K : PySem.W.Frag} {Z : Hp} : ∀ (n : Nat) {vs : List V} {ds : List D}, RpAll K Z vs ds → RpAll K Z (vs.take n) (ds.take n)
  | 0, _, _, _ => by simp; exact .nil
  | n + 1, _, _, .nil => by simp; exact .nil
  | n + 1, _, _, .cons q r => by simp; exact .cons q (RpAll.take n r)
theorem RpAll.drop {K : PySem.W.Frag} {Z : Hp} : ∀ (n : Nat) {vs : List V} {ds : List D}, RpAll K Z vs ds → RpAll K Z (vs.drop n) (ds.drop n)
  | 0, _, _, h => by simpa using h
  | n + 1, _, _, .nil => by simp; exact .nil
  | n + 1, _, _, .cons q r => by simp; exact RpAll.drop n r
theorem RpAll.set {K : PySem.W.Frag} {Z : Hp} {v : V} {d : D} (h : Rp K Z v d) : ∀ (n : Nat) {vs : List V} {ds : List D}, RpAll K Z vs ds → RpAll K Z (vs.set n v) (ds.set n d)
  | _, _, _, .nil => by simp; exact .nil
  | 0, _, _, .cons q r => by simp; exact .cons h r
  | n + 1, _, _, .cons q r => by simp; exact .cons q (RpAll.set h n r)
theorem RpAll.one {K : PySem.W.Frag} {Z : Hp} {v : V} {d : D} (h : Rp K Z v d) : RpAll K Z [v] [d] := .cons h .nil
theorem RpAll.eraseIdx {K : PySem.W.Frag} {Z : Hp} : ∀ (n : Nat) {vs : List V} {ds : List D}, RpAll K Z vs ds → RpAll K Z (vs.eraseIdx n) (ds.eraseIdx n)
  | _, _, _, .nil => by simp; exact .nil
  | 0, _, _, .cons q r => by simp; exact r
  | n + 1, _, _, .cons q r => by simp; exact .cons q (RpAll.eraseIdx n r)
theorem RpAll.reverse {K : PySem.W.Frag} {Z : Hp} {vs : List V} {ds : List D} (h : RpAll K Z vs ds) : RpAll K Z vs.reverse ds.reverse := by
  induction ds generalizing vs with
  | nil => cases h; exact .nil
  | cons d ds ih =>
    cases h with
    | cons q r => rw [List.reverse_cons, List.reverse_cons]; exact RpAll.append (ih r) (RpAll.one q)
theorem RpAll.dropLast {K : PySem.W.Frag} {Z : Hp} {vs : List V} {ds : List D} (h : RpAll K Z vs ds) : RpAll K Z vs.dropLast ds.dropLast := by
  rw [List.dropLast_eq_take, List.dropLast_eq_take, h.length]; exact h.take _
theorem RpAll.ints {K : PySem.W.Frag} {Z : Hp} : ∀ (ns : List Int), RpAll K Z (ns.map V.int) (ns.map PyData.int)
  | [] => .nil
  | n :: ns => .cons (.int n) (RpAll.ints ns)
theorem RpAll.strs {K : PySem.W.Frag} {Z : Hp} : ∀ (ns : List Str), RpAll K Z (ns.map V.str) (ns.map PyData.str)
  | [] => .nil
  | n :: ns => .cons (.str n) (RpAll.strs ns)
theorem RpAll.of_ints {K : PySem.W.Frag} {Z : Hp} : ∀ {vs : List V} {ns : List Int}, RpAll K Z vs (ns.map PyData.int) → vs = ns.map V.int
  | _, [], h => by cases h; rfl
  | _, n :: ns, h => by
    cases h with
    | cons h1 h2 => cases h1; rw [RpAll.of_ints h2]; rfl
theorem RpAll.of_strs {K : PySem.W.Frag} {Z : Hp} : ∀ {vs : List V} {ns : List Str}, RpAll K Z vs (ns.map PyData.str) → vs = ns.map V.str
  | _, [], h => by cases h; rfl
  | _, n :: ns, h => by
    cases h with
    | cons h1 h2 => cases h1; rw [RpAll.of_strs h2]; rfl
theorem RpAll.of_bools {K : PySem.W.Frag} {Z : Hp} : ∀ {vs : List V} {ns : List Bool}, RpAll K Z vs (ns.map PyData.bool) → vs = ns.map V.bl
  | _, [], h => by cases h; rfl
  | _, n :: ns, h => by
    cases h with
    | cons h1 h2 => cases h1; rw [RpAll.of_bools h2]; rfl
/-! ### owned things -/
inductive Ct where
  | li (ds : List D)
  | dk (kvs : List (Key × D))
  | dt (kvs : List (List Key × D))
inductive Sl where
  | no
  | pu (d : D)
  | ow (pin : Bool) (c : Ct)
abbrev Rho := List Sl

def KvR {κ : Type} (K : PySem.W.Frag) (Z : Hp) : List (κ × V) → List (κ × D) → Prop := Paired fun (p : κ × V) (q : κ × D) => p.1 = q.1 ∧ Rp K Z p.2 q.2
theorem KvR.mono {κ : Type} {K : PySem.W.Frag} {Z Z' : Hp} {p : List (κ × V)} {q : List (κ × D)} (h : KvR K Z p q) (e : Same Z Z') : KvR K Z' p q :=
  Paired.mapP h fun _ _ r => ⟨r.1, Rp.mono r.2 e⟩
def CtR (K : PySem.W.Frag) (Z : Hp) : HO → Ct → Prop
  | .lst vs, .li ds => RpAll K Z vs ds
  | .dK kvs, .dk eds => KvR K Z kvs eds
  | .dT kvs, .dt eds => KvR K Z kvs eds
  | _, _ => False
theorem CtR.mono {K : PySem.W.Frag} {Z Z' : Hp} {o : HO} {c : Ct} (h : CtR K Z o c) (e : Same Z Z') : CtR K Z' o c := by
  cases o <;> cases c <;> first | exact h.elim | exact RpAll.mono h e | exact KvR.mono h e | exact h
theorem CtR.mu {K : PySem.W.Frag} {Z : Hp} {o : HO} {c : Ct} (h : CtR K Z o c) : Mut (some o) := by
  cases o <;> cases c <;> first | exact h.elim | trivial

/-- the ground of a body: the abstract heap and the still data at its entry, the slots that hold what the caller lent -/
structure Gm where
  H0 : Hp
  Z0 : Hp
  pins : List (Nat × Addr)
def Gm.lent (G : Gm) (a : Addr) : Prop := ∃ i, (i, a) ∈ G.pins

structure Sim (K : PySem.W.Frag) (G : Gm) (Z : Hp) (ρ : Rho) (σ : St) (H : Hp) : Prop where
  zz : Same G.Z0 Z
  zh : Same Z H
  fr : ∀ a o, G.H0 a = some o → ¬ G.lent a → H a = some o
  nw : ∀ a o, Z a = some o → G.Z0 a = some o ∨ G.H0 a = none
  pu : ∀ (i : Nat) d, ρ[i]? = some (Sl.pu d) → ∃ v, σ[i]? = some (some v) ∧ Rp K Z v d
  ow : ∀ (i : Nat) p c, ρ[i]? = some (Sl.ow p c) → ∃ a o, σ[i]? = some (some (V.ref a)) ∧ H a = some o ∧ CtR K Z o c ∧ Z a = none ∧ (p = true → G.lent a) ∧ (p = false → G.H0 a = none)
  ne : ∀ (i j : Nat) p q c d, i ≠ j → ρ[i]? = some (Sl.ow p c) → ρ[j]? = some (Sl.ow q d) → σ[i]? ≠ σ[j]?
  pin : ∀ (i : Nat) a, (i, a) ∈ G.pins → σ[i]? = some (some (V.ref a)) ∧ ∃ c, ρ[i]? = some (Sl.ow true c)
  len : ρ.length = σ.length

/-- the heap grows: new things, some of them still data -/
structure Grow (Z H Z' H' : Hp) : Prop where
  z : Same Z Z'
  zh : Same Z' H'
  h : Same H H'
  n : ∀ a o, Z' a = some o → Z a = some o ∨ H a = none
theorem Grow.refl {Z H : Hp} (h : Same Z H) : Grow Z H Z H := ⟨.refl _, h, .refl _, fun _ _ e => .inl e⟩
theorem same_upd {H : Hp} {p : Addr} (h : H p = none) (o : HO) : Same H (upd H p o) := fun b u q => by rw [upd_ne (ne_of_none q h)]; exact q
theorem none_of_same {Z H : Hp} (e : Same Z H) {p : Addr} (h : H p = none) : Z p = none := e.free h
/-- a new thing that stands still -/
theorem Grow.still {Z H : Hp} (e : Same Z H) {p : Addr} (h : H p = none) (o : HO) : Grow Z H (upd Z p o) (upd H p o) where
  z := same_upd (none_of_same e h) o
  zh := fun b u q => by
    by_cases hb : b = p
    · subst hb; rw [upd_same] at q ⊢; exact q
    · rw [upd_ne hb] at q ⊢; exact e _ _ q
  h := same_upd h o
  n := fun b u q => by
    by_cases hb : b = p
    · subst hb; exact .inr h
    · rw [upd_ne hb] at q; exact .inl q
/-- a new thing that does not -/
theorem Grow.loose {Z H : Hp} (e : Same Z H) {p : Addr} (h : H p = none) (o : HO) : Grow Z H Z (upd H p o) :=
  ⟨.refl _, fun b u q => by rw [upd_ne (ne_of_none (e _ _ q) h)]; exact e _ _ q, same_upd h o, fun _ _ q => .inl q⟩
theorem Grow.trans {Z H Z1 H1 Z2 H2 : Hp} (a : Grow Z H Z1 H1) (b : Grow Z1 H1 Z2 H2) : Grow Z H Z2 H2 :=
  ⟨a.z.trans b.z, b.zh, a.h.trans b.h, fun x o e => (b.n x o e).elim (fun q => a.n x o q) fun q => .inr (a.h.free q)⟩

section
variable {K : PySem.W.Frag} {G : Gm} {Z Z' : Hp} {ρ : Rho} {σ : St} {H H' : Hp}
theorem Sim.lentIn (S : Sim K G Z ρ σ H) {a : Addr} (h : G.lent a) : ∃ (i : Nat) (c : Ct) (o : HO), σ[i]? = some (some (V.ref a)) ∧ ρ[i]? = some (Sl.ow true c) ∧ H a = some o ∧ CtR K Z o c ∧ Z a = none := by
  obtain ⟨i, hi⟩ := h
  obtain ⟨e, c, hc⟩ := S.pin i a hi
  obtain ⟨b, o, e', ho, r, z, _, _⟩ := S.ow i true c hc
  rw [e] at e'
  cases e'
  exact ⟨i, c, o, e, hc, ho, r, z⟩
theorem Sim.freshIn (S : Sim K G Z ρ σ H) {a : Addr} (h : H a = none) : G.H0 a = none := by
  cases e : G.H0 a with
  | none => rfl
  | some o =>
    by_cases l : G.lent a
    · obtain ⟨_, _, _, _, _, q, _⟩ := S.lentIn l
      rw [h] at q; cases q
    · have q := S.fr a o e l
      rw [h] at q; cases q
theorem Sim.grow (S : Sim K G Z ρ σ H) (g : Grow Z H Z' H') : Sim K G Z' ρ σ H' where
  zz := S.zz.trans g.z
  zh := g.zh
  fr := fun a o e l => g.h _ _ (S.fr a o e l)
  nw := fun a o e => (g.n a o e).elim (fun q => S.nw a o q) fun q => .inr (S.freshIn q)
  pu := fun i d e => let ⟨v, q, r⟩ := S.pu i d e; ⟨v, q, r.mono g.z⟩
  ow := fun i p c e => by
    obtain ⟨a, o, q, ho, r, z, l⟩ := S.ow i p c e
    refine ⟨a, o, q, g.h _ _ ho, r.mono g.z, ?_, l⟩
    cases q' : Z' a with
    | none => rfl
    | some u =>
      rcases g.n a u q' with w | w
      · rw [z] at w; cases w
      · rw [ho] at w; cases w
  ne := S.ne
  pin := S.pin
  len := S.len
theorem Sim.fresh (S : Sim K G Z ρ σ H) {p : Addr} (h : H p = none) : Z p = none := none_of_same S.zh h
end

/-! ### results -/
structure Xn where
  cls : Str
  told : List (Str × D)
inductive M (α : Type) where
  | st
  | ok (a : α) (ρ : Rho)
  | ex (x : Xn) (ρ : Rho)
def M.bind {α β : Type} (m : M α) (f : α → Rho → M β) : M β := match m with
  | .st => .st
  | .ok a ρ => f a ρ
  | .ex x ρ => .ex x ρ
@[simp] theorem M.bind_ok {α β : Type} (a : α) (ρ : Rho) (f : α → Rho → M β) : (M.ok a ρ).bind f = f a ρ := rfl
@[simp] theorem M.bind_st {α β : Type} (f : α → Rho → M β) : (M.st : M α).bind f = .st := rfl
@[simp] theorem M.bind_ex {α β : Type} (x : Xn) (ρ : Rho) (f : α → Rho → M β) : (M.ex x ρ : M α).bind f = .ex x ρ := rfl
abbrev O (α : Type) := Rho → M α
inductive Va where
  | pu (d : D)
  | rf (i : Nat)
inductive Rs where
  | pu (d : D)
  | nw (c : Ct)
/-- what is wanted of an exception -/
abbrev Wish := Xn → Rho → Hp → St → Hp → Prop
abbrev Rel (α β : Type) := Hp → Rho → St → Hp → β → α → Prop

section
variable (K : PySem.W.Frag) (G : Gm) (B : Wish)
def Post {α β : Type} (R : Rel α β) (σ : St) (Z : Hp) (m : M α) (Q : β → Hp → Prop) : Prop := match m with
  | .st => False
  | .ok a ρ' => ∀ v Z' H', Same Z Z' → Sim K G Z' ρ' σ H' → R Z' ρ' σ H' v a → Q v H'
  | .ex x ρ' => ∀ Z' H', Same Z Z' → Sim K G Z' ρ' σ H' → B x ρ' Z' σ H'
def Run {α β : Type} (R : Rel α β) (o : O α) : St → Hp → (β → Hp → Prop) → Prop := fun σ H Q => ∃ Z ρ, Sim K G Z ρ σ H ∧ Post K G B R σ Z (o ρ) Q
def VaR : Rel Va V := fun Z ρ σ H v a => match a with
  | .pu d => Rp K Z v d
  | .rf i => σ[i]? = some (some v)
def RsR : Rel Rs V := fun Z ρ σ H v r => match r with
  | .pu d => Rp K Z v d
  | .nw c => ∃ a o, v = V.ref a ∧ H a = some o ∧ CtR K Z o c ∧ Z a = none ∧ G.H0 a = none ∧ ∀ (i : Nat) p c, ρ[i]? = some (Sl.ow p c) → σ[i]? ≠ some (some (V.ref a))
def BoR : Rel Bool Bool := fun _ _ _ _ b a => b = a
def VasR : Rel (List Va) (List V) := fun Z ρ σ H vs as => Paired (VaR K Z ρ σ H) vs as
end
theorem Post.bind {K : PySem.W.Frag} {G : Gm} {B : Wish} {α α' β β' : Type} {R : Rel α β} {R' : Rel α' β'} {σ : St} {Z : Hp} {m : M α} {f : α → Rho → M α'} {Q : β' → Hp → Prop} {C : β → Hp → Prop} (h : Post K G B R' σ Z (m.bind f) Q)
    (k : ∀ x a ρ1 Z1 H1, Same Z Z1 → Sim K G Z1 ρ1 σ H1 → R Z1 ρ1 σ H1 x a → Post K G B R' σ Z1 (f a ρ1) Q → C x H1) : Post K G B R σ Z m C := by
  cases m with
  | st => exact h
  | ex x ρ => exact h
  | ok a ρ1 =>
    intro v Z' H' e S r
    refine k v a ρ1 Z' H' e S r ?_
    have h' : Post K G B R' σ Z (f a ρ1) Q := h
    cases q : f a ρ1 with
    | st => rw [q] at h'; exact h'
    | ok b ρ2 => rw [q] at h'; exact fun v2 Z2 H2 e2 => h' v2 Z2 H2 (e.trans e2)
    | ex b ρ2 => rw [q] at h'; exact fun Z2 H2 e2 => h' Z2 H2 (e.trans e2)

/-! ### judgements -/
section
variable (X : Cx) (G : Gm) (B : Wish)
def ED (e : Expr) (o : O Va) : Prop := PE X e (Run X.K G B (VaR X.K) o)
def RD (e : Expr) (o : O Rs) : Prop := PE X e (Run X.K G B (RsR X.K G) o)
def TD (e : Expr) (o : O Bool) : Prop := PT X e (Run X.K G B BoR o)
def AD (es : List Expr) (o : O (List Va)) : Prop := PA X es (Run X.K G B (VasR X.K) o)
end
theorem pe_imp {X : Cx} {e : Expr} {t t' : TE} (h : PE X e t) (k : ∀ σ H Q, t' σ H Q → t σ H Q) : PE X e t' := ⟨fun pins s σ H Q I w => h.run pins s σ H Q I (k _ _ _ w)⟩
theorem pt_imp {X : Cx} {e : Expr} {t t' : TT} (h : PT X e t) (k : ∀ σ H Q, t' σ H Q → t σ H Q) : PT X e t' := ⟨fun pins s σ H Q I w => h.run pins s σ H Q I (k _ _ _ w)⟩
theorem pa_imp {X : Cx} {e : List Expr} {t t' : TA} (h : PA X e t) (k : ∀ σ H Q, t' σ H Q → t σ H Q) : PA X e t' := ⟨fun pos pins s σ H Q I w => h.run pos pins s σ H Q I (k _ _ _ w)⟩
theorem ps_imp {X : Cx} {e : Stmt} {t t' : TS} (h : PS X e t) (k : ∀ D σ H, t' D σ H → t D σ H) : PS X e t' := ⟨fun pins s σ H D I w => h.run pins s σ H D I (k _ _ _ w)⟩
theorem pss_imp {X : Cx} {e : List Stmt} {t t' : TS} (h : PSs X e t) (k : ∀ D σ H, t' D σ H → t D σ H) : PSs X e t' := ⟨fun pins s σ H D I w => h.run pins s σ H D I (k _ _ _ w)⟩
theorem pe_alt {X : Cx} {e : Expr} {t t' : TE} (h : PE X e t) (h' : PE X e t') : PE X e (fun σ H Q => t σ H Q ∨ t' σ H Q) := ⟨fun pins s σ H Q I w => w.elim (h.run pins s σ H Q I) (h'.run pins s σ H Q I)⟩
end Ow
namespace Ow
open PySem L2
/-! ### what can be read now -/
def Rdb (K : PySem.W.Frag) (Z H : Hp) (v : V) (d : D) : Prop := Rp K Z v d ∨ ∃ a vs ds, v = .ref a ∧ d = .list ds ∧ H a = some (.lst vs) ∧ RpAll K Z vs ds
def rdV (ρ : Rho) (a : Va) : Option D := match a with
  | .pu d => some d
  | .rf i => match ρ[i]? with
    | some (.ow _ (.li ds)) => some (.list ds)
    | _ => none
@[simp] theorem rdV_pu (ρ : Rho) (d : D) : rdV ρ (.pu d) = some d := rfl
section
variable {K : PySem.W.Frag} {G : Gm} {B : Wish} {Z Z' : Hp} {ρ ρ' : Rho} {σ : St} {H H' : Hp} {v : V} {a : Va} {d : D} {i : Int} {x : Str} {b : Bool} {ds : List D}
theorem VaR.mono (h : VaR K Z ρ σ H v a) (e : Same Z Z') : VaR K Z' ρ' σ H' v a := by
  cases a with
  | pu d => exact Rp.mono h e
  | rf i => exact h
theorem Sim.rdb (S : Sim K G Z ρ σ H) (h : VaR K Z ρ' σ H' v a) (e : rdV ρ a = some d) : Rdb K Z H v d := by
  cases a with
  | pu d' => cases e; exact .inl h
  | rf i =>
    unfold rdV at e
    split at e
    · cases ‹Va.rf i = _›
    · rename_i j h1
      cases h1
      split at e
      · rename_i p ds hr
        cases e
        obtain ⟨a, o, q, ho, r, _⟩ := S.ow i p _ hr
        have h' : σ[i]? = some (some v) := h
        rw [q] at h'
        cases h'
        cases o with
        | lst vs => exact .inr ⟨a, vs, ds, rfl, rfl, ho, r⟩
        | _ => exact r.elim
      · cases e
theorem Rdb.int (h : Rdb K Z H v (.int i)) : v = .int i := by
  rcases h with h | ⟨_, _, _, _, e, _⟩
  · cases h; rfl
  · cases e
theorem Rdb.str (h : Rdb K Z H v (.str x)) : v = .str x := by
  rcases h with h | ⟨_, _, _, _, e, _⟩
  · cases h; rfl
  · cases e
theorem Rdb.bl (h : Rdb K Z H v (.bool b)) : v = .bl b := by
  rcases h with h | ⟨_, _, _, _, e, _⟩
  · cases h; rfl
  · cases e
theorem Rdb.non (h : Rdb K Z H v .none) : v = .non := by
  rcases h with h | ⟨_, _, _, _, e, _⟩
  · cases h; rfl
  · cases e
theorem Rdb.list (h : Rdb K Z H v (.list ds)) (e : Same Z H) : ∃ a vs, v = .ref a ∧ H a = some (.lst vs) ∧ RpAll K Z vs ds := by
  rcases h with h | ⟨a, vs, ds', h1, h2, h3, h4⟩
  · cases h with
    | lst h1 h2 => exact ⟨_, _, rfl, e _ _ h1, h2⟩
  · cases h2; exact ⟨a, vs, h1, h3, h4⟩
theorem Rdb.tup (h : Rdb K Z H v (.tuple ds)) (e : Same Z H) : ∃ a vs, v = .ref a ∧ H a = some (.tup vs) ∧ RpAll K Z vs ds ∧ Rp K Z v (.tuple ds) := by
  rcases h with h | ⟨_, _, _, _, e, _⟩
  · cases h with
    | tup h1 h2 => exact ⟨_, _, rfl, e _ _ h1, h2, .tup h1 h2⟩
  · cases e
theorem Rdb.scr (h : Rdb K Z H v (scr ds)) (e : Same Z H) : ∃ a vs, v = .ref a ∧ SqL K H a vs ∧ RpAll K Z vs ds := by
  rcases h with h | ⟨_, _, _, _, e, _⟩
  · cases h with
    | frz h1 h2 => exact ⟨_, _, rfl, sqL_mono e h1, h2⟩
  · cases e
theorem Rdb.kon (h : Rdb K Z H v (kon ds)) (e : Same Z H) : ∃ a vs, v = .ref a ∧ SqT K H a vs ∧ RpAll K Z vs ds := by
  rcases h with h | ⟨_, _, _, _, e, _⟩
  · cases h with
    | kon h1 h2 => exact ⟨_, _, rfl, sqT_mono e h1, h2⟩
  · cases e
/-- data without the script's word -/
theorem Rdb.dp (h : Rdb K Z H v d) (e : Same Z H) (c : d.canLay0 = true) : Dp K H v d := by
  rcases h with h | ⟨a, vs, ds, rfl, rfl, h3, h4⟩
  · exact (h.mono e).dp c
  · exact .lst (SqL.of h3) ((h4.mono e).dp (by simpa [PyData.canLay0] using c))

/-! ### how a rule's answer goes back -/
def ResG (K : PySem.W.Frag) (Z' H H' : Hp) (v : V) (r : Rs) : Prop := match r with
  | .pu d => Rp K Z' v d
  | .nw c => ∃ a o, v = V.ref a ∧ H a = none ∧ Z' a = none ∧ H' a = some o ∧ CtR K Z' o c
theorem Sim.res (S : Sim K G Z ρ σ H) {r : Rs} (h : ResG K Z' H H' v r) : RsR K G Z' ρ σ H' v r := by
  cases r with
  | pu d => exact h
  | nw c =>
    obtain ⟨a, o, e, n, z, ho, cr⟩ := h
    refine ⟨a, o, e, ho, cr, z, S.freshIn n, fun i p c' hi q => ?_⟩
    obtain ⟨a', o', q', ho', _⟩ := S.ow i p c' hi
    rw [q] at q'
    cases q'
    rw [n] at ho'
    cases ho'
theorem Post.fin {r : Rs} {Q : VK} (p : Post K G B (RsR K G) σ Z (.ok r ρ) Q) (S : Sim K G Z ρ σ H) (g : Grow Z H Z' H') (h : ResG K Z' H H' v r) : Q v H' :=
  p v Z' H' g.z (S.grow g) (S.res h)
theorem Post.finP {d : D} {Q : VK} (p : Post K G B (fun Z ρ σ H v d => Rp K Z v d) σ Z (.ok d ρ) Q) (S : Sim K G Z ρ σ H) (g : Grow Z H Z' H') (h : Rp K Z' v d) : Q v H' :=
  p v Z' H' g.z (S.grow g) h
/-- a new list that nobody changes any more -/
theorem Sim.freezeNew (S : Sim K G Z ρ σ H) {p : Addr} {vs : List V} (h : H p = some (.lst vs)) (z : Z p = none) (n : G.H0 p = none) (hn : ∀ (i : Nat) q c, ρ[i]? = some (Sl.ow q c) → σ[i]? ≠ some (some (V.ref p))) :
    Sim K G (upd Z p (.lst vs)) ρ σ H where
  zz := S.zz.trans (same_upd z _)
  zh := fun b u q => by
    by_cases hb : b = p
    · subst hb; rw [upd_same] at q; cases q; exact h
    · rw [upd_ne hb] at q; exact S.zh _ _ q
  fr := S.fr
  nw := fun b u q => by
    by_cases hb : b = p
    · subst hb; exact .inr n
    · rw [upd_ne hb] at q; exact S.nw _ _ q
  pu := fun i d e => let ⟨v, q, r⟩ := S.pu i d e; ⟨v, q, r.mono (same_upd z _)⟩
  ow := fun i q c e => by
    obtain ⟨a, o, q', ho, r, z', l⟩ := S.ow i q c e
    refine ⟨a, o, q', ho, r.mono (same_upd z _), ?_, l⟩
    rw [upd_ne]
    · exact z'
    · intro e'; subst e'; exact hn i q c e q'
  ne := S.ne
  pin := S.pin
  len := S.len
end
def PuR (K : PySem.W.Frag) : Rel D V := fun Z ρ σ H v d => Rp K Z v d
def PD (X : Cx) (G : Gm) (B : Wish) (e : Expr) (o : O D) : Prop := PE X e (Run X.K G B (PuR X.K) o)

/-! ### from one kind of answer to another -/
def oPu (o : O D) : O Va := fun ρ => (o ρ).bind fun d ρ1 => .ok (.pu d) ρ1
def oRes (o : O D) : O Rs := fun ρ => (o ρ).bind fun d ρ1 => .ok (.pu d) ρ1
def frz1 (r : Rs) (ρ : Rho) : M D := match r with
  | .pu d => .ok d ρ
  | .nw (.li ds) => .ok (.list ds) ρ
  | _ => .st
def oFrz (o : O Rs) : O D := fun ρ => (o ρ).bind frz1
def keep1 (a : Va) (ρ : Rho) : M D := match a with
  | .pu d => .ok d ρ
  | .rf i => match ρ[i]? with
    | some (.ow false (.li ds)) => .ok (.list ds) (ρ.set i (.pu (.list ds)))
    | _ => .st
def oKeep (o : O Va) : O D := fun ρ => (o ρ).bind keep1
@[simp] theorem frz1_pu (d : D) (ρ : Rho) : frz1 (.pu d) ρ = .ok d ρ := rfl
@[simp] theorem frz1_li (ds : List D) (ρ : Rho) : frz1 (.nw (.li ds)) ρ = .ok (.list ds) ρ := rfl
@[simp] theorem keep1_pu (d : D) (ρ : Rho) : keep1 (.pu d) ρ = .ok d ρ := rfl
section
variable {X : Cx} {G : Gm} {B : Wish} {e : Expr}
theorem run_imp {K : PySem.W.Frag} {α α' β β' : Type} {R : Rel α β} {R' : Rel α' β'} {o : O α} {f : α → Rho → M α'} {σ : St} {H : Hp} {Q : β' → Hp → Prop} {C : β → Hp → Prop} (h : Run K G B R' (fun ρ => (o ρ).bind f) σ H Q)
    (k : ∀ x a ρ1 Z1 H1, Sim K G Z1 ρ1 σ H1 → R Z1 ρ1 σ H1 x a → Post K G B R' σ Z1 (f a ρ1) Q → C x H1) : Run K G B R o σ H C := by
  obtain ⟨Z, ρ, S, p⟩ := h
  exact ⟨Z, ρ, S, Post.bind p fun x a ρ1 Z1 H1 _ S1 r p1 => k x a ρ1 Z1 H1 S1 r p1⟩
theorem ed_pd {o : O D} (h : PD X G B e o) : ED X G B e (oPu o) := pe_imp h fun σ H Q w => run_imp w fun x a ρ1 Z1 H1 S1 r p1 => p1 x Z1 H1 (.refl _) S1 r
theorem rd_pd {o : O D} (h : PD X G B e o) : RD X G B e (oRes o) := pe_imp h fun σ H Q w => run_imp w fun x a ρ1 Z1 H1 S1 r p1 => p1 x Z1 H1 (.refl _) S1 r
theorem pd_rd {o : O Rs} (h : RD X G B e o) : PD X G B e (oFrz o) := pe_imp h fun σ H Q w => run_imp w fun x r ρ1 Z1 H1 S1 q p1 => by
  cases r with
  | pu d => exact p1 x Z1 H1 (.refl _) S1 q
  | nw c =>
    cases c with
    | li ds =>
      obtain ⟨a, ho, ev, h1, cr, z, n, hn⟩ := q
      cases ho with
      | lst vs =>
        refine p1 x (upd Z1 a (.lst vs)) H1 (same_upd z _) (S1.freezeNew h1 z n hn) ?_
        subst ev
        exact .lst upd_same (RpAll.mono cr (same_upd z _))
      | _ => exact cr.elim
    | dk kvs => exact p1.elim
    | dt kvs => exact p1.elim
theorem Sim.freezeSlot {K : PySem.W.Frag} {Z : Hp} {ρ : Rho} {σ : St} {H : Hp} {i : Nat} {ds : List D} (S : Sim K G Z ρ σ H) (h : ρ[i]? = some (Sl.ow false (.li ds))) :
    ∃ a vs, σ[i]? = some (some (V.ref a)) ∧ H a = some (.lst vs) ∧ RpAll K Z vs ds ∧ Z a = none ∧ Sim K G (upd Z a (.lst vs)) (ρ.set i (.pu (.list ds))) σ H := by
  obtain ⟨a, o, q, ho, r, z, _, n⟩ := S.ow i _ _ h
  cases o with
  | lst vs =>
    have hi : i < ρ.length := by
      have := List.getElem?_eq_some_iff.mp h
      exact this.1
    have e1 : Same Z (upd Z a (.lst vs)) := same_upd z _
    refine ⟨a, vs, q, ho, r, z, ⟨S.zz.trans e1, fun b u q' => ?_, S.fr, fun b u q' => ?_, fun j d e => ?_, fun j p c e => ?_, fun j k p q' c d hjk e1 e2 => ?_, fun j b hj => ?_, by rw [List.length_set]; exact S.len⟩⟩
    · by_cases hb : b = a
      · subst hb; rw [upd_same] at q'; cases q'; exact ho
      · rw [upd_ne hb] at q'; exact S.zh _ _ q'
    · by_cases hb : b = a
      · subst hb; exact .inr (n rfl)
      · rw [upd_ne hb] at q'; exact S.nw _ _ q'
    · by_cases hj : j = i
      · subst hj
        rw [List.getElem?_set_self hi] at e
        cases e
        exact ⟨_, q, .lst upd_same (RpAll.mono r e1)⟩
      · rw [List.getElem?_set_ne (Ne.symm hj)] at e
        obtain ⟨v, q1, r1⟩ := S.pu j d e
        exact ⟨v, q1, r1.mono e1⟩
    · by_cases hj : j = i
      · subst hj
        rw [List.getElem?_set_self hi] at e
        cases e
      · rw [List.getElem?_set_ne (Ne.symm hj)] at e
        obtain ⟨a', o', q1, h1, r1, z1, l1⟩ := S.ow j p c e
        refine ⟨a', o', q1, h1, r1.mono e1, ?_, l1⟩
        rw [upd_ne]
        · exact z1
        · intro e'
          subst e'
          exact S.ne j i _ _ _ _ hj e h (q1.trans q.symm)
    · have hj : j ≠ i := fun e => by subst e; rw [List.getElem?_set_self hi] at e1; cases e1
      have hk : k ≠ i := fun e => by subst e; rw [List.getElem?_set_self hi] at e2; cases e2
      rw [List.getElem?_set_ne (Ne.symm hj)] at e1
      rw [List.getElem?_set_ne (Ne.symm hk)] at e2
      exact S.ne j k p q' c d hjk e1 e2
    · obtain ⟨q1, c, hc⟩ := S.pin j b hj
      refine ⟨q1, c, ?_⟩
      rw [List.getElem?_set_ne]
      · exact hc
      · intro e; subst e; rw [h] at hc; cases hc
  | _ => exact r.elim
theorem pd_ed {o : O Va} (h : ED X G B e o) : PD X G B e (oKeep o) := pe_imp h fun σ H Q w => run_imp w fun x a ρ1 Z1 H1 S1 q p1 => by
  cases a with
  | pu d => exact p1 x Z1 H1 (.refl _) S1 q
  | rf i =>
    have p2 : Post X.K G B (PuR X.K) σ Z1 (keep1 (.rf i) ρ1) Q := p1
    unfold keep1 at p2
    split at p2
    · cases ‹Va.rf i = _›
    · rename_i j hj
      cases hj
      split at p2
      · rename_i ds hr
        obtain ⟨a, vs, q1, h1, r1, z1, S2⟩ := S1.freezeSlot hr
        have q' : σ[i]? = some (some x) := q
        rw [q1] at q'
        cases q'
        exact p2 _ _ H1 (same_upd z1 _) S2 (.lst upd_same (RpAll.mono r1 (same_upd z1 _)))
      · exact p2.elim
end
/-! ### names, constants -/
def oVar (i : Nat) : O Va := fun ρ => match ρ[i]? with
  | some (.pu d) => .ok (.pu d) ρ
  | some (.ow _ _) => .ok (.rf i) ρ
  | _ => .st
def oC (d : D) : O D := fun ρ => .ok d ρ
section
variable {X : Cx} {G : Gm} {B : Wish} {e : Expr} {pos : Pos} {j : Nat}
theorem ed_var (i : Nat) {x : Str} (hN : X.N[i]? = some x := by rfl) (hv : Vis X.env.scope x := by first | exact Or.inl rfl | exact Or.inr (Or.inl rfl) | exact Or.inr (Or.inr rfl)) (hd : (x == ("__debug__" : Str)) = false := by decide)
    (hcd : (x == ("__classdict__" : Str)) = false := by decide) : ED X G B (.Name x pos) (oVar i) := by
  refine pe_imp (pe_var (i := i) hN hv hd hcd) ?_
  rintro σ H Q ⟨Z, ρ, S, p⟩
  unfold oVar at p
  split at p
  · rename_i d h
    obtain ⟨v, q, r⟩ := S.pu i d h
    exact ⟨v, q, p v Z H (.refl _) S r⟩
  · rename_i b c h
    obtain ⟨a, o, q, _⟩ := S.ow i b c h
    exact ⟨_, q, p _ Z H (.refl _) S q⟩
  · exact p.elim
theorem pd_const {v : V} {d : D} (h : PE X e (tC v)) (r : ∀ Z, Rp X.K Z v d) : PD X G B e (oC d) := pe_imp h fun σ H Q ⟨Z, ρ, S, p⟩ => p v Z H (.refl _) S (r Z)
theorem pd_int {i : Int} {k} : PD X G B (.Constant (.int i) k pos) (oC (.int i)) := pd_const pe_int fun _ => .int i
theorem pd_bool {i : Bool} {k} : PD X G B (.Constant (.bool i) k pos) (oC (.bool i)) := pd_const pe_bl fun _ => .bl i
theorem pd_none {k} : PD X G B (.Constant .none k pos) (oC .none) := pd_const pe_non fun _ => .non
theorem pd_str {x : Str} {k} : PD X G B (.Constant (.str x) k pos) (oC (.str x)) := pd_const pe_str fun _ => .str x
end
/-! ### operators -/
/-- a rule of two values, by data -/
def BinS (K : PySem.W.Frag) (r : R2) (f : D → D → Option Rs) : Prop := ∀ (x y : V) (dx dy : D) (R : Rs) (Z H : Hp) (Q : VK), Same Z H → Rdb K Z H x dx → Rdb K Z H y dy → f dx dy = some R →
  (∀ v Z' H', Grow Z H Z' H' → ResG K Z' H H' v R → Q v H') → r x y H Q
def bin1 (f : D → D → Option Rs) (a b : Va) (ρ : Rho) : M Rs := match rdV ρ a, rdV ρ b with
  | some dx, some dy => match f dx dy with
    | some r => .ok r ρ
    | none => .st
  | _, _ => .st
@[simp] theorem bin1_pu (f : D → D → Option Rs) (a b : D) (ρ : Rho) : bin1 f (.pu a) (.pu b) ρ = match f a b with | some r => .ok r ρ | none => .st := rfl
def oBin (f : D → D → Option Rs) (oa ob : O Va) : O Rs := fun ρ => (oa ρ).bind fun a ρ1 => (ob ρ1).bind fun b ρ2 => bin1 f a b ρ2
section
variable {X : Cx} {G : Gm} {B : Wish} {a b : Expr} {pos : Pos} {oa ob : O Va}
theorem run_bin {K : PySem.W.Frag} {r : R2} {f : D → D → Option Rs} (hf : BinS K r f) {σ : St} {H : Hp} {Q : VK} (w : Run K G B (RsR K G) (oBin f oa ob) σ H Q) : tOp r (Run K G B (VaR K) oa) (Run K G B (VaR K) ob) σ H Q := by
  obtain ⟨Z, ρ, S, p⟩ := w
  refine ⟨Z, ρ, S, Post.bind p fun x a ρ1 Z1 H1 e1 S1 r1 p1 => ⟨Z1, ρ1, S1, Post.bind p1 fun y b ρ2 Z2 H2 e2 S2 r2 p2 => ?_⟩⟩
  unfold bin1 at p2
  split at p2
  · rename_i dx dy hx hy
    split at p2
    · rename_i R hR
      exact hf x y dx dy R Z2 H2 Q S2.zh (S2.rdb (r1.mono (ρ' := ρ2) (H' := H2) e2) hx) (S2.rdb r2 hy) hR fun v Z' H' g h => p2.fin S2 g h
    · exact p2.elim
  · exact p2.elim
theorem rd_bin {op : Operator} {r : R2} {f : D → D → Option Rs} (ho : OpR X (binaryOp op) r) (hf : BinS X.K r f) (ha : ED X G B a oa) (hb : ED X G B b ob) : RD X G B (.BinOp a op b pos) (oBin f oa ob) :=
  pe_imp (pe_op ho ha hb) fun _ _ _ w => run_bin hf w
theorem rd_cmp {op : CmpOp} {r : R2} {f : D → D → Option Rs} (ho : OpR X (compareOp op) r) (hf : BinS X.K r f) (hm : behindInMarks op b = false) (ha : ED X G B a oa) (hb : ED X G B b ob) : RD X G B (.Compare a [op] [b] pos) (oBin f oa ob) :=
  pe_imp (pe_cmpR ho ha hb hm) fun _ _ _ w => run_bin hf w
end
end Ow
namespace Ow
open PySem L2
/-- products, quotients: what the model's rules ask of the sizes -/
def mulOk (i j : Int) : Bool := decide (i.natAbs < 18446744073709551616 ∨ j.natAbs < 18446744073709551616)
def divOk (i j : Int) : Bool := decide (0 < j ∧ j.natAbs.log2 < 9000)
theorem mulOk_c {i j : Int} (h : mulOk i j = true) : CMul i j := by
  unfold mulOk at h
  have q := of_decide_eq_true h
  unfold CMul
  omega
theorem divOk_c {i j : Int} (h : divOk i j = true) : CDivW i j := by
  unfold divOk at h
  have q := of_decide_eq_true h
  exact q
/-- + -/
def fAdd : D → D → Option Rs
  | .int i, .int j => some (.pu (.int (i + j)))
  | .str i, .str j => if i.length + j.length ≤ 16000000 then some (.pu (.str (i ++ j))) else none
  | .list xs, .list ys => if xs.length + ys.length ≤ 16000000 then some (.nw (.li (xs ++ ys))) else none
  | .tuple xs, .tuple ys => if xs.length + ys.length ≤ 16000000 then some (.pu (.tuple (xs ++ ys))) else none
  | _, _ => none
def fInt2 (g : Int → Int → Int) : D → D → Option Rs
  | .int i, .int j => some (.pu (.int (g i j)))
  | _, _ => none
def fSub := fInt2 fun i j => i - j
def fAnd := fInt2 Builtin.bitAnd
def fOr := fInt2 Builtin.bitOr
def fXor := fInt2 Builtin.bitXor
def fMul : D → D → Option Rs
  | .int i, .int j => if mulOk i j then some (.pu (.int (i * j))) else none
  | .list xs, .int k => if 0 ≤ k ∧ xs.length * k.toNat ≤ 16000000 ∧ k.natAbs < 1000000 then some (.nw (.li (List.replicate k.toNat xs).flatten)) else none
  | _, _ => none
def fDiv : D → D → Option Rs
  | .int i, .int j => if divOk i j then some (.pu (.int (i / j))) else none
  | _, _ => none
def fMod : D → D → Option Rs
  | .int i, .int j => if 0 < j then some (.pu (.int (i % j))) else none
  | _, _ => none
def fPow : D → D → Option Rs
  | .int i, .int j => if 0 ≤ j ∧ j.natAbs ≤ 1000000 ∧ i.natAbs < 2 ^ 64 then some (.pu (.int (i ^ j.toNat))) else none
  | _, _ => none
def fShl : D → D → Option Rs
  | .int i, .int j => if 0 ≤ j ∧ j.natAbs ≤ 1000000 ∧ i.natAbs < 2 ^ 64 then some (.pu (.int (i * 2 ^ j.toNat))) else none
  | _, _ => none
def fShr : D → D → Option Rs
  | .int i, .int j => if 0 ≤ j then some (.pu (.int (i / 2 ^ j.toNat))) else none
  | _, _ => none
/-- comparisons -/
def fEq (a b : D) : Option Rs := if SeqAt.shaped a = true ∧ SeqAt.shaped b = true then some (.pu (.bool (PyData.eqv a b))) else none
def fNe (a b : D) : Option Rs := if SeqAt.shaped a = true ∧ SeqAt.shaped b = true then some (.pu (.bool (!PyData.eqv a b))) else none
def fCmp (g : Int → Int → Bool) : D → D → Option Rs
  | .int i, .int j => some (.pu (.bool (g i j)))
  | _, _ => none
def fLt := fCmp fun i j => decide (i < j)
def fLe := fCmp fun i j => decide (i ≤ j)
def fGt := fCmp fun i j => decide (j < i)
def fGe := fCmp fun i j => decide (j ≤ i)
def fIsN (neg : Bool) : D → D → Option Rs
  | .none, .none => some (.pu (.bool (!neg)))
  | .bool _, .none | .int _, .none | .str _, .none | .list _, .none | .tuple _, .none => some (.pu (.bool neg))
  | _, _ => none
def flatD : D → Bool
  | .none | .bool _ | .int _ | .str _ => true
  | _ => false
/-- in: flat things in lists and tuples; a sign, a text in a text -/
def inD (x : D) (ys : List D) : Bool := ys.any fun y => PyData.eqv y x
def inT (x y : Str) : Bool := if x.cps.size = 1 then decide (x.cps.getD 0 0 ∈ y.cps.toList) else !(Builtin.Str.occurrences y x 0 y.length 1).isEmpty
def fIn (neg : Bool) : D → D → Option Rs
  | x, .list ys => if flatD x = true ∧ ys.all flatD = true then some (.pu (.bool (if neg then !inD x ys else inD x ys))) else none
  | x, .tuple ys => if flatD x = true ∧ ys.all flatD = true then some (.pu (.bool (if neg then !inD x ys else inD x ys))) else none
  | x, .dict [(.bool true, .tuple ys)] => if flatD x = true ∧ ys.all flatD = true then some (.pu (.bool (if neg then !inD x ys else inD x ys))) else none
  | .str x, .str y => some (.pu (.bool (if neg then !inT x y else inT x y)))
  | _, _ => none
section
variable {K : PySem.W.Frag} {X : Cx}
theorem lim_le {n : Nat} (h : n ≤ 16000000) : n ≤ sizeLine := Nat.le_trans h (by decide)
theorem lim_lt {n : Nat} (h : n < 16000000) : n < sizeLine := Nat.lt_of_lt_of_le h (by decide)
theorem binS_int {g : Int → Int → Int} : BinS K (rI0 fun i j => .int (g i j)) (fInt2 g) := by
  intro x y dx dy R Z H Q e rx ry hf k
  unfold fInt2 at hf
  split at hf
  · cases hf
    exact ⟨_, _, rx.int, ry.int, k _ Z H (.refl e) (.int _)⟩
  · cases hf
theorem binS_intC {C : Int → Int → Prop} {g : Int → Int → Int} {f : D → D → Option Rs} (hf : ∀ a b R, f a b = some R → ∃ i j, a = .int i ∧ b = .int j ∧ C i j ∧ R = .pu (.int (g i j))) : BinS K (rI C fun i j => .int (g i j)) f := by
  intro x y dx dy R Z H Q e rx ry h k
  obtain ⟨i, j, rfl, rfl, c, rfl⟩ := hf _ _ _ h
  exact ⟨_, _, rx.int, ry.int, c, k _ Z H (.refl e) (.int _)⟩
theorem binS_cmp {g : Int → Int → Bool} : BinS K (rI0 fun i j => .bl (g i j)) (fCmp g) := by
  intro x y dx dy R Z H Q e rx ry hf k
  unfold fCmp at hf
  split at hf
  · cases hf
    exact ⟨_, _, rx.int, ry.int, k _ Z H (.refl e) (.bl _)⟩
  · cases hf
abbrev rAddAll (K : PySem.W.Frag) : R2 := fun x y H Q => rI0 (fun i j => .int (i + j)) x y H Q ∨ (fun x y H Q => (fun x y H Q => ∃ i j, x = V.str i ∧ y = V.str j ∧ i.length + j.length ≤ sizeLine ∧ Q (V.str (i ++ j)) H) x y H Q ∨ (fun x y H Q => rCat x y H Q ∨ rCatA K x y H Q) x y H Q) x y H Q
theorem op_addAll : OpR X (binaryOp .Add) (rAddAll X.K) := op_add.or (op_add_str.or (op_cat.or op_catA))
theorem new_ne {H : Hp} {p : Addr} {a : Addr} {o : HO} (h : H a = some o) (n : H p = none) : a ≠ p := ne_of_none h n
theorem binS_add : BinS K (rAddAll K) fAdd := by
  intro x y dx dy R Z H Q e rx ry hf k
  unfold fAdd at hf
  split at hf
  · cases hf
    exact .inl ⟨_, _, rx.int, ry.int, k _ Z H (.refl e) (.int _)⟩
  · split at hf
    · cases hf
      exact .inr (.inl ⟨_, _, rx.str, ry.str, lim_le ‹_›, k _ Z H (.refl e) (.str _)⟩)
    · cases hf
  · split at hf
    · cases hf
      rename_i xs ys hz
      obtain ⟨a, vs, rfl, ha, ra⟩ := rx.list e
      obtain ⟨b, ws, rfl, hb, rb⟩ := ry.list e
      refine .inr (.inr (.inl ⟨a, b, vs, ws, rfl, rfl, ha, hb, by rw [ra.length, rb.length]; exact lim_le hz, fun p hp => ?_⟩))
      exact k _ Z _ (.loose e hp _) ⟨p, _, rfl, hp, none_of_same e hp, upd_same, ra.append rb⟩
    · cases hf
  · split at hf
    · cases hf
      rename_i xs ys hz
      obtain ⟨a, vs, rfl, ha, ra, qa⟩ := rx.tup e
      obtain ⟨b, ws, rfl, hb, rb, qb⟩ := ry.tup e
      refine .inr (.inr (.inr ⟨a, b, vs, ws, rfl, rfl, SqT.of ha, SqT.of hb, by rw [ra.length, rb.length]; exact lim_le hz, fun h0 => ?_, fun h0 h1 => ?_, fun h0 h1 p hp => ?_⟩))
      · subst h0; cases ra; exact k _ Z H (.refl e) qb
      · subst h1; cases rb; rw [List.append_nil] at k; exact k _ Z H (.refl e) qa
      · refine k _ _ _ (.still e hp _) ?_
        have e1 : Same Z (upd Z p (.tup (vs ++ ws))) := same_upd (none_of_same e hp) _
        exact .tup upd_same ((ra.append rb).mono e1)
    · cases hf
  · cases hf
abbrev rMulAll : R2 := fun x y H Q => rI CMul (fun i j => .int (i * j)) x y H Q ∨ rRep x y H Q
theorem op_mulAll : OpR X (binaryOp .Mult) rMulAll := op_mul.or op_rep
theorem binS_mul : BinS K rMulAll fMul := by
  intro x y dx dy R Z H Q e rx ry hf k
  unfold fMul at hf
  split at hf
  · split at hf
    · cases hf
      rename_i h
      exact .inl ⟨_, _, rx.int, ry.int, mulOk_c h, k _ Z H (.refl e) (.int _)⟩
    · cases hf
  · split at hf
    · cases hf
      rename_i xs n h
      obtain ⟨a, vs, rfl, ha, ra⟩ := rx.list e
      refine .inr ⟨a, n, vs, rfl, ry.int, ha, by omega, by omega, by rw [ra.length]; exact lim_le h.2.1, fun p hp => ?_⟩
      refine k _ Z _ (.loose e hp _) ⟨p, _, rfl, hp, none_of_same e hp, upd_same, ?_⟩
      show RpAll K Z (List.replicate n.toNat vs).flatten (List.replicate n.toNat xs).flatten
      induction n.toNat with
      | zero => exact .nil
      | succ m ih => rw [List.replicate_succ, List.replicate_succ, List.flatten_cons, List.flatten_cons]; exact ra.append ih
    · cases hf
  · cases hf
theorem binS_div : BinS K (rI CDivW fun i j => .int (i / j)) fDiv := binS_intC fun a b R h => by
  unfold fDiv at h
  split at h
  · split at h
    · cases h; rename_i hd; exact ⟨_, _, rfl, rfl, divOk_c hd, rfl⟩
    · cases h
  · cases h
theorem binS_mod : BinS K (rI (fun _ j => 0 < j) fun i j => .int (i % j)) fMod := binS_intC fun a b R h => by
  unfold fMod at h
  split at h
  · split at h
    · cases h; exact ⟨_, _, rfl, rfl, ‹_›, rfl⟩
    · cases h
  · cases h
theorem binS_pow : BinS K (rI CPow fun i j => .int (i ^ j.toNat)) fPow := binS_intC fun a b R h => by
  unfold fPow at h
  split at h
  · split at h
    · rename_i c; cases h; exact ⟨_, _, rfl, rfl, ⟨c.1, by omega, c.2.2⟩, rfl⟩
    · cases h
  · cases h
theorem binS_shl : BinS K (rI CPow fun i j => .int (i * 2 ^ j.toNat)) fShl := binS_intC fun a b R h => by
  unfold fShl at h
  split at h
  · split at h
    · rename_i c; cases h; exact ⟨_, _, rfl, rfl, ⟨c.1, by omega, c.2.2⟩, rfl⟩
    · cases h
  · cases h
theorem binS_shr : BinS K (rI (fun _ j => 0 ≤ j) fun i j => .int (i / 2 ^ j.toNat)) fShr := binS_intC fun a b R h => by
  unfold fShr at h
  split at h
  · split at h
    · cases h; exact ⟨_, _, rfl, rfl, ‹_›, rfl⟩
    · cases h
  · cases h
theorem shaped_lay {d : D} (h : SeqAt.shaped d = true) : d.canLay0 = true := SeqAt.canLay_of_shaped h
theorem binS_eq : BinS K (rEqD K) fEq := by
  intro x y dx dy R Z H Q e rx ry hf k
  unfold fEq at hf
  split at hf
  · cases hf
    rename_i h
    exact ⟨dx, dy, rx.dp e (shaped_lay h.1), ry.dp e (shaped_lay h.2), h.1, h.2, k _ Z H (.refl e) (.bl _)⟩
  · cases hf
theorem binS_ne : BinS K (rNeD K) fNe := by
  intro x y dx dy R Z H Q e rx ry hf k
  unfold fNe at hf
  split at hf
  · cases hf
    rename_i h
    exact ⟨dx, dy, rx.dp e (shaped_lay h.1), ry.dp e (shaped_lay h.2), h.1, h.2, k _ Z H (.refl e) (.bl _)⟩
  · cases hf
theorem Rdb.nonI {Z H : Hp} {v : V} {d : D} (h : Rdb K Z H v d) (c : ∃ R, fIsN false d .none = some R) : decide (v = .non) = (match d with | .none => true | _ => false) := by
  rcases h with h | ⟨a, vs, ds, rfl, rfl, _⟩
  · cases h <;> first | rfl | (obtain ⟨R, c⟩ := c; cases c) | simp
  · simp
theorem binS_isN : BinS K rIsN (fIsN false) := by
  intro x y dx dy R Z H Q e rx ry hf k
  have c : ∃ R, fIsN false dx .none = some R := by
    unfold fIsN at hf ⊢
    split at hf <;> first | exact ⟨_, rfl⟩ | cases hf
  have n := rx.nonI c
  have hy : y = .non := by
    unfold fIsN at hf
    split at hf <;> first | exact ry.non | cases hf
  refine ⟨hy, ?_⟩
  rw [n]
  unfold fIsN at hf
  split at hf <;> first | (cases hf; exact k _ Z H (.refl e) (.bl _)) | cases hf
theorem binS_notN : BinS K rNotN (fIsN true) := by
  intro x y dx dy R Z H Q e rx ry hf k
  have c : ∃ R, fIsN false dx .none = some R := by
    unfold fIsN at hf ⊢
    split at hf <;> first | exact ⟨_, rfl⟩ | cases hf
  have n := rx.nonI c
  have hy : y = .non := by
    unfold fIsN at hf
    split at hf <;> first | exact ry.non | cases hf
  refine ⟨hy, ?_⟩
  rw [n]
  unfold fIsN at hf
  split at hf <;> first | (cases hf; exact k _ Z H (.refl e) (.bl _)) | cases hf
theorem Rp.flat {Z : Hp} {v : V} {d : D} (h : Rp K Z v d) (c : flatD d = true) : flatV v = true := by
  cases h <;> first | rfl | cases c
theorem Rdb.flat {Z H : Hp} {v : V} {d : D} (h : Rdb K Z H v d) (c : flatD d = true) : flatV v = true ∧ Rp K Z v d := by
  rcases h with h | ⟨_, _, _, _, rfl, _⟩
  · exact ⟨h.flat c, h⟩
  · cases c
theorem RpAll.flat {Z : Hp} : ∀ {vs : List V} {ds : List D}, RpAll K Z vs ds → ds.all flatD = true → vs.all flatV = true
  | _, [], h, _ => by cases h; rfl
  | _, d :: ds, h, c => by
    cases h with
    | cons h1 h2 =>
      simp only [List.all_cons, Bool.and_eq_true] at c ⊢
      exact ⟨h1.flat c.1, h2.flat c.2⟩
theorem eqv_flat {Z : Hp} {v w : V} {d e : D} (h : Rp K Z v d) (g : Rp K Z w e) (c : flatD d = true) (c' : flatD e = true) : eqV v w = PyData.eqv d e := by
  cases h <;> cases g <;> first | (simp [eqV, PyData.eqv]; done) | exact absurd c (by simp [flatD]) | exact absurd c' (by simp [flatD])
theorem inV_inD {Z : Hp} {v : V} {d : D} (h : Rp K Z v d) (c : flatD d = true) : ∀ {vs : List V} {ds : List D}, RpAll K Z vs ds → ds.all flatD = true → inV v vs = inD d ds
  | _, [], g, _ => by cases g; rfl
  | _, e :: ds, g, q => by
    cases g with
    | cons g1 g2 =>
      simp only [List.all_cons, Bool.and_eq_true] at q
      have ih := inV_inD h c g2 q.2
      unfold inV inD at ih ⊢
      rw [List.any_cons, List.any_cons, ih, eqv_flat g1 h q.1 c]
abbrev rInAll (K : PySem.W.Frag) (neg : Bool) : R2 := fun x y H Q => rIn K neg x y H Q ∨ (fun x y H Q => (if neg = true then rNotInS else rInS) x y H Q ∨ (fun x y H Q => ∃ i j, x = V.str i ∧ y = V.str j ∧ Q (V.bl (if neg then !(!(Builtin.Str.occurrences j i 0 j.length 1).isEmpty) else (!(Builtin.Str.occurrences j i 0 j.length 1).isEmpty))) H) x y H Q) x y H Q
theorem op_inAll : OpR X (compareOp .In) (rInAll X.K false) := by
  have h := (op_in_seq (X := X)).or ((op_inS (X := X)).or (op_in_str (X := X)))
  exact h
theorem op_notInAll : OpR X (compareOp .NotIn) (rInAll X.K true) := by
  have h := (op_notIn_seq (X := X)).or ((op_notInS (X := X)).or (op_notin_str (X := X)))
  exact h
theorem one_sign {x : Str} (h : x.cps.size = 1) : x = ⟨#[x.cps.getD 0 0]⟩ := by
  obtain ⟨⟨l⟩⟩ := x
  match l, h with
  | [c], _ => rfl
theorem binS_in {neg : Bool} : BinS K (rInAll K neg) (fIn neg) := by
  intro x y dx dy R Z H Q e rx ry hf k
  unfold fIn at hf
  split at hf
  · split at hf
    · cases hf
      rename_i ys h
      obtain ⟨a, vs, rfl, ha, ra⟩ := ry.list e
      obtain ⟨fx, px⟩ := rx.flat h.1
      refine .inl ⟨a, vs, rfl, .inl (SqL.of ha), fx, ra.flat h.2, ?_⟩
      rw [inV_inD px h.1 ra h.2]
      exact k _ Z H (.refl e) (.bl _)
    · cases hf
  · split at hf
    · cases hf
      rename_i ys h
      obtain ⟨a, vs, rfl, ha, ra, _⟩ := ry.tup e
      obtain ⟨fx, px⟩ := rx.flat h.1
      refine .inl ⟨a, vs, rfl, .inr (SqT.of ha), fx, ra.flat h.2, ?_⟩
      rw [inV_inD px h.1 ra h.2]
      exact k _ Z H (.refl e) (.bl _)
    · cases hf
  · split at hf
    · cases hf
      rename_i ys h
      obtain ⟨a, vs, rfl, ha, ra⟩ := ry.kon e
      obtain ⟨fx, px⟩ := rx.flat h.1
      refine .inl ⟨a, vs, rfl, .inr ha, fx, ra.flat h.2, ?_⟩
      rw [inV_inD px h.1 ra h.2]
      exact k _ Z H (.refl e) (.bl _)
    · cases hf
  · rename_i i j
    cases hf
    have k' := k _ Z H (.refl e) (.bl _)
    by_cases h1 : i.cps.size = 1
    · refine .inr (.inl ?_)
      have q : inT i j = decide (i.cps.getD 0 0 ∈ j.cps.toList) := by unfold inT; rw [if_pos h1]
      rw [q] at k'
      cases neg with
      | true =>
        show rNotInS x y H Q
        exact ⟨_, j, by rw [rx.str, ← one_sign h1], ry.str, k'⟩
      | false =>
        show rInS x y H Q
        exact ⟨_, j, by rw [rx.str, ← one_sign h1], ry.str, k'⟩
    · refine .inr (.inr ⟨i, j, rx.str, ry.str, ?_⟩)
      have q : inT i j = (!(Builtin.Str.occurrences j i 0 j.length 1).isEmpty) := by unfold inT; rw [if_neg h1]
      rw [q] at k'
      exact k'
  · cases hf
end
/-! ### unary -/
def UnS (K : PySem.W.Frag) (r : V → Hp → VK → Prop) (f : D → Option Rs) : Prop := ∀ (x : V) (dx : D) (R : Rs) (Z H : Hp) (Q : VK), Same Z H → Rdb K Z H x dx → f dx = some R →
  (∀ v Z' H', Grow Z H Z' H' → ResG K Z' H H' v R → Q v H') → r x H Q
def un1 (f : D → Option Rs) (a : Va) (ρ : Rho) : M Rs := match rdV ρ a with
  | some dx => match f dx with
    | some r => .ok r ρ
    | none => .st
  | _ => .st
@[simp] theorem un1_pu (f : D → Option Rs) (a : D) (ρ : Rho) : un1 f (.pu a) ρ = match f a with | some r => .ok r ρ | none => .st := rfl
def oUn (f : D → Option Rs) (oa : O Va) : O Rs := fun ρ => (oa ρ).bind (un1 f)
def fNeg : D → Option Rs
  | .int i => some (.pu (.int (-i)))
  | _ => none
section
variable {X : Cx} {G : Gm} {B : Wish} {a b : Expr} {pos : Pos} {oa ob : O Va}
theorem run_un {K : PySem.W.Frag} {r : V → Hp → VK → Prop} {f : D → Option Rs} (hf : UnS K r f) {σ : St} {H : Hp} {Q : VK} (w : Run K G B (RsR K G) (oUn f oa) σ H Q) : Run K G B (VaR K) oa σ H fun x H1 => r x H1 Q := by
  obtain ⟨Z, ρ, S, p⟩ := w
  refine ⟨Z, ρ, S, Post.bind p fun x a ρ1 Z1 H1 e1 S1 r1 p1 => ?_⟩
  unfold un1 at p1
  split at p1
  · rename_i dx hx
    split at p1
    · rename_i R hR
      exact hf x dx R Z1 H1 Q S1.zh (S1.rdb r1 hx) hR fun v Z' H' g h => p1.fin S1 g h
    · exact p1.elim
  · exact p1.elim
theorem rd_un {op : UnaryOp} {r : V → Hp → VK → Prop} {f : D → Option Rs} (ho : UnR X (unaryOp op) r) (hf : UnS X.K r f) (ha : ED X G B a oa) : RD X G B (.UnaryOp op a pos) (oUn f oa) :=
  pe_imp (pe_un ho ha) fun _ _ _ w => run_un hf w
theorem unS_neg {K : PySem.W.Frag} : UnS K (rU fun i => .int (-i)) fNeg := by
  intro x dx R Z H Q e rx hf k
  unfold fNeg at hf
  split at hf
  · cases hf; exact ⟨_, rx.int, k _ Z H (.refl e) (.int _)⟩
  · cases hf
/-! ### the operators by name -/
theorem rd_add (ha : ED X G B a oa) (hb : ED X G B b ob) : RD X G B (.BinOp a .Add b pos) (oBin fAdd oa ob) := rd_bin op_addAll binS_add ha hb
theorem rd_sub (ha : ED X G B a oa) (hb : ED X G B b ob) : RD X G B (.BinOp a .Sub b pos) (oBin fSub oa ob) := rd_bin op_sub binS_int ha hb
theorem rd_mul (ha : ED X G B a oa) (hb : ED X G B b ob) : RD X G B (.BinOp a .Mult b pos) (oBin fMul oa ob) := rd_bin op_mulAll binS_mul ha hb
theorem rd_fdiv (ha : ED X G B a oa) (hb : ED X G B b ob) : RD X G B (.BinOp a .FloorDiv b pos) (oBin fDiv oa ob) := rd_bin op_fdivW binS_div ha hb
theorem rd_mod (ha : ED X G B a oa) (hb : ED X G B b ob) : RD X G B (.BinOp a .Mod b pos) (oBin fMod oa ob) := rd_bin op_mod binS_mod ha hb
theorem rd_pow (ha : ED X G B a oa) (hb : ED X G B b ob) : RD X G B (.BinOp a .Pow b pos) (oBin fPow oa ob) := rd_bin op_pow binS_pow ha hb
theorem rd_shl (ha : ED X G B a oa) (hb : ED X G B b ob) : RD X G B (.BinOp a .LShift b pos) (oBin fShl oa ob) := rd_bin op_shl binS_shl ha hb
theorem rd_shr (ha : ED X G B a oa) (hb : ED X G B b ob) : RD X G B (.BinOp a .RShift b pos) (oBin fShr oa ob) := rd_bin op_shr binS_shr ha hb
theorem rd_band (ha : ED X G B a oa) (hb : ED X G B b ob) : RD X G B (.BinOp a .BitAnd b pos) (oBin fAnd oa ob) := rd_bin op_and binS_int ha hb
theorem rd_bor (ha : ED X G B a oa) (hb : ED X G B b ob) : RD X G B (.BinOp a .BitOr b pos) (oBin fOr oa ob) := rd_bin op_or binS_int ha hb
theorem rd_bxor (ha : ED X G B a oa) (hb : ED X G B b ob) : RD X G B (.BinOp a .BitXor b pos) (oBin fXor oa ob) := rd_bin op_xor binS_int ha hb
theorem rd_neg (ha : ED X G B a oa) : RD X G B (.UnaryOp .USub a pos) (oUn fNeg oa) := rd_un un_neg unS_neg ha
/-- a comparison's rule, for values and for tests -/
structure CmpK (X : Cx) (op : CmpOp) (r : R2) (f : D → D → Option Rs) : Prop where
  o : OpR X (compareOp op) r
  s : BinS X.K r f
theorem ck_eq {k : Nat} (hr : Room k X.A) : CmpK X .Eq (rEqD X.K) fEq := ⟨op_eqD hr.units, binS_eq⟩
theorem ck_ne {k : Nat} (hr : Room k X.A) : CmpK X .NotEq (rNeD X.K) fNe := ⟨op_neD hr.units, binS_ne⟩
theorem ck_lt : CmpK X .Lt (rI0 fun i j => .bl (decide (i < j))) fLt := ⟨op_lt, binS_cmp⟩
theorem ck_le : CmpK X .LtE (rI0 fun i j => .bl (decide (i ≤ j))) fLe := ⟨op_le, binS_cmp⟩
theorem ck_gt : CmpK X .Gt (rI0 fun i j => .bl (decide (j < i))) fGt := ⟨op_gt, binS_cmp⟩
theorem ck_ge : CmpK X .GtE (rI0 fun i j => .bl (decide (j ≤ i))) fGe := ⟨op_ge, binS_cmp⟩
theorem ck_is : CmpK X .Is rIsN (fIsN false) := ⟨op_isN, binS_isN⟩
theorem ck_isnot : CmpK X .IsNot rNotN (fIsN true) := ⟨op_notN, binS_notN⟩
theorem ck_in : CmpK X .In (rInAll X.K false) (fIn false) := ⟨op_inAll, binS_in⟩
theorem ck_notin : CmpK X .NotIn (rInAll X.K true) (fIn true) := ⟨op_notInAll, binS_in⟩
theorem rd_ck {op : CmpOp} {r : R2} {f : D → D → Option Rs} (c : CmpK X op r f) (ha : ED X G B a oa) (hb : ED X G B b ob) (hm : behindInMarks op b = false := by first | exact nomark _ | rfl) : RD X G B (.Compare a [op] [b] pos) (oBin f oa ob) := rd_cmp c.o c.s hm ha hb
end
end Ow
namespace Ow
open PySem L2
/-! ### tests -/
def tst1 (r : Rs) (ρ : Rho) : M Bool := match r with
  | .pu (.bool b) => .ok b ρ
  | _ => .st
@[simp] theorem tst1_b (b : Bool) (ρ : Rho) : tst1 (.pu (.bool b)) ρ = .ok b ρ := rfl
def oTst (o : O Rs) : O Bool := fun ρ => (o ρ).bind tst1
def fTru : D → Option Bool
  | .none => some false
  | .bool b => some b
  | .int i => some (i != 0)
  | .str x => if x.length ≤ 16000000 then some (x.length != 0) else none
  | .list xs => some (!xs.isEmpty)
  | .tuple xs => some (!xs.isEmpty)
  | .dict _ => none
def tru1 (a : Va) (ρ : Rho) : M Bool := match a with
  | .pu d => match fTru d with
    | some b => .ok b ρ
    | none => .st
  | .rf i => match ρ[i]? with
    | some (.ow _ (.li ds)) => .ok (!ds.isEmpty) ρ
    | some (.ow _ (.dk kvs)) => .ok (!kvs.isEmpty) ρ
    | _ => .st
@[simp] theorem tru1_pu (d : D) (ρ : Rho) : tru1 (.pu d) ρ = match fTru d with | some b => .ok b ρ | none => .st := rfl
def oTru (o : O Va) : O Bool := fun ρ => (o ρ).bind tru1
def oAnd (a b : O Bool) : O Bool := fun ρ => (a ρ).bind fun c ρ1 => if c = true then b ρ1 else .ok false ρ1
def oOr (a b : O Bool) : O Bool := fun ρ => (a ρ).bind fun c ρ1 => if c = true then .ok true ρ1 else b ρ1
def oNot (a : O Bool) : O Bool := fun ρ => (a ρ).bind fun c ρ1 => .ok (!c) ρ1
def oBl (a : O Bool) : O D := fun ρ => (a ρ).bind fun c ρ1 => .ok (.bool c) ρ1
def oIf {α : Type} (c : O Bool) (a b : O α) : O α := fun ρ => (c ρ).bind fun t ρ1 => if t = true then a ρ1 else b ρ1
def bl1 (d : D) (f : Bool → M D) : M D := match d with
  | .bool c => f c
  | _ => .st
@[simp] theorem bl1_b (c : Bool) (f : Bool → M D) : bl1 (.bool c) f = f c := rfl
def oAndV (a b : O D) : O D := fun ρ => (a ρ).bind fun d ρ1 => bl1 d fun c => if c = true then b ρ1 else .ok (.bool false) ρ1
def oOrV (a b : O D) : O D := fun ρ => (a ρ).bind fun d ρ1 => bl1 d fun c => if c = true then .ok (.bool true) ρ1 else b ρ1
def oNotV (a : O D) : O D := fun ρ => (a ρ).bind fun d ρ1 => bl1 d fun c => .ok (.bool (!c)) ρ1
def WD (X : Cx) (G : Gm) (B : Wish) (e : Expr) (o : O Bool) : Prop := PW X e (Run X.K G B BoR o)
section
variable {X : Cx} {G : Gm} {B : Wish} {a b c e : Expr} {rest : List Expr} {pos : Pos} {ta tb tc : O Bool} {oa ob oc : O Va}
theorem run_tst {K : PySem.W.Frag} {o : O Rs} {σ : St} {H : Hp} {Q : Bool → Hp → Prop} (w : Run K G B BoR (oTst o) σ H Q) : Run K G B (RsR K G) o σ H fun x H1 => ∃ k, x = .bl k ∧ Q k H1 :=
  run_imp w fun x r ρ1 Z1 H1 S1 q p1 => by
    unfold tst1 at p1
    split at p1
    · rename_i b
      have q' : Rp K Z1 x (.bool b) := q
      cases q'
      exact ⟨b, rfl, p1 b Z1 H1 (.refl _) S1 rfl⟩
    · exact p1.elim
theorem td_ck {op : CmpOp} {r : R2} {f : D → D → Option Rs} (k : CmpK X op r f) (ha : ED X G B a oa) (hb : ED X G B b ob) (hm : behindInMarks op b = false := by first | exact nomark _ | rfl) : TD X G B (.Compare a [op] [b] pos) (oTst (oBin f oa ob)) :=
  pt_imp (pt_cmpR k.o ha hb hm) fun _ _ _ w => run_bin k.s (run_tst w)
theorem td_rd {o : O Rs} (h : RD X G B e o) (he : ∀ whole, isTrue e X.env whole = (do let v ← whole; standAt e.pos; holding [v] (truthy v)) := by intro _; rfl) : TD X G B e (oTst o) :=
  pt_imp (pt_val h he) fun _ _ _ w => run_tst w
theorem td_tru {o : O Va} (h : ED X G B e o) (he : ∀ whole, isTrue e X.env whole = (do let v ← whole; standAt e.pos; holding [v] (truthy v)) := by intro _; rfl) : TD X G B e (oTru o) :=
  pt_imp (pt_truth h he) fun σ H Q w => run_imp w fun x va ρ1 Z1 H1 S1 q p1 => by
    unfold tru1 at p1
    split at p1
    · rename_i d
      split at p1
      · rename_i k hk
        refine ⟨k, ?_, p1 k Z1 H1 (.refl _) S1 rfl⟩
        have q' : Rp X.K Z1 x d := q
        unfold fTru at hk
        split at hk
        · cases hk; cases q'; rfl
        · cases hk; cases q'; rfl
        · cases hk; cases q'; rfl
        · split at hk
          · cases hk; cases q'; exact ⟨lim_le ‹_›, by simp only [bne]; congr 1; rw [Bool.eq_iff_iff]; simp⟩
          · cases hk
        · cases hk
          cases q' with
          | lst h1 h2 =>
            refine .inl ⟨_, SqL.of (S1.zh _ _ h1), ?_⟩
            cases h2 <;> rfl
        · cases hk
          cases q' with
          | tup h1 h2 =>
            refine .inr (.inl ⟨_, SqT.of (S1.zh _ _ h1), ?_⟩)
            cases h2 <;> rfl
        · cases hk
      · exact p1.elim
    · rename_i i
      have q' : σ[i]? = some (some x) := q
      split at p1
      · rename_i p ds hr
        obtain ⟨b, o, q1, ho, r, _⟩ := S1.ow i _ _ hr
        rw [q1] at q'; cases q'
        cases o with
        | lst vs =>
          refine ⟨!ds.isEmpty, .inl ⟨vs, SqL.of ho, ?_⟩, p1 _ Z1 H1 (.refl _) S1 rfl⟩
          cases (show RpAll X.K Z1 vs ds from r) <;> rfl
        | _ => exact r.elim
      · rename_i p kvs hr
        obtain ⟨b, o, q1, ho, r, _⟩ := S1.ow i _ _ hr
        rw [q1] at q'; cases q'
        cases o with
        | dK vs =>
          refine ⟨!kvs.isEmpty, .inr (.inr ⟨vs, ho, ?_⟩), p1 _ Z1 H1 (.refl _) S1 rfl⟩
          cases (show KvR X.K Z1 vs kvs from r) <;> rfl
        | _ => exact r.elim
      · exact p1.elim
theorem wd_and1 (h : TD X G B a ta) : WD X G B (.BoolOp .And [a] pos) ta := pw_and1 h
theorem wd_or1 (h : TD X G B a ta) : WD X G B (.BoolOp .Or [a] pos) ta := pw_or1 h
theorem pw_imp {e : Expr} {t t' : TT} (h : PW X e t) (k : ∀ σ H Q, t' σ H Q → t σ H Q) : PW X e t' := ⟨fun wh pins s σ H Q I w => h.run wh pins s σ H Q I (k _ _ _ w)⟩
theorem wd_and (ha : TD X G B a ta) (hb : WD X G B (.BoolOp .And (b :: rest) pos) tb) : WD X G B (.BoolOp .And (a :: b :: rest) pos) (oAnd ta tb) :=
  pw_imp (pw_and ha hb) fun σ H Q w => run_imp w fun x k ρ1 Z1 H1 S1 q p1 => by
    have q : x = k := q
    subst q
    cases x with
    | true => exact ⟨Z1, ρ1, S1, p1⟩
    | false => exact p1 false Z1 H1 (.refl _) S1 rfl
theorem wd_or (ha : TD X G B a ta) (hb : WD X G B (.BoolOp .Or (b :: rest) pos) tb) : WD X G B (.BoolOp .Or (a :: b :: rest) pos) (oOr ta tb) :=
  pw_imp (pw_or ha hb) fun σ H Q w => run_imp w fun x k ρ1 Z1 H1 S1 q p1 => by
    have q : x = k := q
    subst q
    cases x with
    | true => exact p1 true Z1 H1 (.refl _) S1 rfl
    | false => exact ⟨Z1, ρ1, S1, p1⟩
theorem td_w (h : WD X G B e ta) : TD X G B e ta := PW.pt h
theorem td_not (ha : TD X G B a ta) : TD X G B (.UnaryOp .Not a pos) (oNot ta) :=
  pt_imp (pt_not ha) fun σ H Q w => run_imp w fun x k ρ1 Z1 H1 S1 q p1 => by
    have q : x = k := q
    subst q
    exact p1 _ Z1 H1 (.refl _) S1 rfl
/-! .. as values -/
theorem pd_one {op} {o : O D} (h : PD X G B a o) : PD X G B (.BoolOp op [a] pos) o := pe_one h
theorem pd_and {o o' : O D} (ha : PD X G B a o) (hb : PD X G B (.BoolOp .And (b :: rest) pos) o') : PD X G B (.BoolOp .And (a :: b :: rest) pos) (oAndV o o') :=
  pe_imp (pe_and ha hb) fun σ H Q w => run_imp w fun x k ρ1 Z1 H1 S1 q p1 => by
    unfold bl1 at p1
    split at p1
    · rename_i c
      have q' : Rp X.K Z1 x (.bool c) := q
      cases q'
      refine ⟨c, rfl, ?_⟩
      cases c with
      | true => exact ⟨Z1, ρ1, S1, p1⟩
      | false => exact p1 _ Z1 H1 (.refl _) S1 (.bl _)
    · exact p1.elim
theorem pd_or {o o' : O D} (ha : PD X G B a o) (hb : PD X G B (.BoolOp .Or (b :: rest) pos) o') : PD X G B (.BoolOp .Or (a :: b :: rest) pos) (oOrV o o') :=
  pe_imp (pe_or ha hb) fun σ H Q w => run_imp w fun x k ρ1 Z1 H1 S1 q p1 => by
    unfold bl1 at p1
    split at p1
    · rename_i c
      have q' : Rp X.K Z1 x (.bool c) := q
      cases q'
      refine ⟨c, rfl, ?_⟩
      cases c with
      | true => exact p1 _ Z1 H1 (.refl _) S1 (.bl _)
      | false => exact ⟨Z1, ρ1, S1, p1⟩
    · exact p1.elim
theorem pd_not {o : O D} (ha : PD X G B a o) : PD X G B (.UnaryOp .Not a pos) (oNotV o) :=
  pe_imp (pe_not ha) fun σ H Q w => run_imp w fun x k ρ1 Z1 H1 S1 q p1 => by
    unfold bl1 at p1
    split at p1
    · rename_i c
      have q' : Rp X.K Z1 x (.bool c) := q
      cases q'
      exact ⟨c, rfl, p1 _ Z1 H1 (.refl _) S1 (.bl _)⟩
    · exact p1.elim
theorem rd_if {o o' : O Rs} (hc : TD X G B c tc) (ha : RD X G B a o) (hb : RD X G B b o') : RD X G B (.IfExp c a b pos) (oIf tc o o') :=
  pe_imp (pe_ifExp hc ha hb) fun σ H Q w => run_imp w fun x k ρ1 Z1 H1 S1 q p1 => by
    have q : x = k := q
    subst q
    cases x with
    | true => exact ⟨Z1, ρ1, S1, p1⟩
    | false => exact ⟨Z1, ρ1, S1, p1⟩
theorem ed_if {o o' : O Va} (hc : TD X G B c tc) (ha : ED X G B a o) (hb : ED X G B b o') : ED X G B (.IfExp c a b pos) (oIf tc o o') :=
  pe_imp (pe_ifExp hc ha hb) fun σ H Q w => run_imp w fun x k ρ1 Z1 H1 S1 q p1 => by
    have q : x = k := q
    subst q
    cases x with
    | true => exact ⟨Z1, ρ1, S1, p1⟩
    | false => exact ⟨Z1, ρ1, S1, p1⟩
end
/-! ### two comparisons in a row -/
def oChain (f g : D → D → Option Rs) (oa ob oc : O Va) : O Rs := fun ρ => (oa ρ).bind fun a ρ1 => (ob ρ1).bind fun b ρ2 => (bin1 f a b ρ2).bind fun r ρ3 => (tst1 r ρ3).bind fun k ρ4 => if k = true then (oc ρ4).bind fun c ρ5 => bin1 g b c ρ5 else .ok (.pu (.bool false)) ρ4
section
variable {X : Cx} {G : Gm} {B : Wish} {a b c e : Expr} {rest : List Expr} {pos : Pos} {oa ob oc : O Va}
theorem bin1_run {K : PySem.W.Frag} {r : R2} {f : D → D → Option Rs} (hf : BinS K r f) {σ : St} {Z H : Hp} {ρ : Rho} {x y : V} {a b : Va} {Q : VK} (S : Sim K G Z ρ σ H) (rx : VaR K Z ρ σ H x a) (ry : VaR K Z ρ σ H y b)
    (p : Post K G B (RsR K G) σ Z (bin1 f a b ρ) Q) : r x y H Q := by
  unfold bin1 at p
  split at p
  · rename_i dx dy hx hy
    split at p
    · rename_i R hR
      exact hf x y dx dy R Z H Q S.zh (S.rdb rx hx) (S.rdb ry hy) hR fun v Z' H' g h => p.fin S g h
    · exact p.elim
  · exact p.elim
theorem run_chain {K : PySem.W.Frag} {r r' : R2} {f g : D → D → Option Rs} (hf : BinS K r f) (hg : BinS K r' g) {σ : St} {H : Hp} {Q : VK} (w : Run K G B (RsR K G) (oChain f g oa ob oc) σ H Q) :
    tChain r r' (Run K G B (VaR K) oa) (Run K G B (VaR K) ob) (Run K G B (VaR K) oc) σ H Q := by
  obtain ⟨Z, ρ, S, p⟩ := w
  refine ⟨Z, ρ, S, Post.bind p fun x a ρ1 Z1 H1 e1 S1 r1 p1 => ⟨Z1, ρ1, S1, Post.bind p1 fun y b ρ2 Z2 H2 e2 S2 r2 p2 => ?_⟩⟩
  refine bin1_run hf S2 (r1.mono (ρ' := ρ2) (H' := H2) e2) r2 (Post.bind p2 fun z r ρ3 Z3 H3 e3 S3 r3 p3 => ?_)
  unfold tst1 at p3
  split at p3
  · rename_i k
    have q : Rp K Z3 z (.bool k) := r3
    cases q
    refine ⟨k, rfl, ?_⟩
    cases k with
    | true =>
      refine ⟨Z3, ρ3, S3, Post.bind (R' := RsR K G) p3 fun w c ρ5 Z5 H5 e5 S5 r5 p5 => ?_⟩
      exact bin1_run hg S5 (r2.mono (ρ' := ρ5) (H' := H5) (e3.trans e5)) r5 p5
    | false => exact p3 _ Z3 H3 (.refl _) S3 (.bl _)
  · exact p3.elim
theorem rd_chain {op op' : CmpOp} {r r' : R2} {f g : D → D → Option Rs} (k : CmpK X op r f) (k' : CmpK X op' r' g) (ha : ED X G B a oa) (hb : ED X G B b ob) (hc : ED X G B c oc) (hl : lastMarks [op, op'] [b, c] = false := by with_unfolding_all rfl) :
    RD X G B (.Compare a [op, op'] [b, c] pos) (oChain f g oa ob oc) := pe_imp (pe_chain k.o k'.o ha hb hc hl) fun _ _ _ w => run_chain k.s k'.s w
theorem td_chain {op op' : CmpOp} {r r' : R2} {f g : D → D → Option Rs} (k : CmpK X op r f) (k' : CmpK X op' r' g) (ha : ED X G B a oa) (hb : ED X G B b ob) (hc : ED X G B c oc) (hl : lastMarks [op, op'] [b, c] = false := by with_unfolding_all rfl) :
    TD X G B (.Compare a [op, op'] [b, c] pos) (oTst (oChain f g oa ob oc)) := pt_imp (pt_chain k.o k'.o ha hb hc hl) fun _ _ _ w => run_chain k.s k'.s (run_tst w)
end
end Ow
namespace Ow
open PySem L2
/-! ### rows of expressions -/
def PusR (K : PySem.W.Frag) : Rel (List D) (List V) := fun Z ρ σ H vs ds => RpAll K Z vs ds
/-- a row of data to be kept (displays) -/
def QD (X : Cx) (G : Gm) (B : Wish) (es : List Expr) (o : O (List D)) : Prop := PA X es (Run X.K G B (PusR X.K) o)
def oNil {α : Type} : O (List α) := fun ρ => .ok [] ρ
def oCons {α : Type} (a : O α) (r : O (List α)) : O (List α) := fun ρ => (a ρ).bind fun x ρ1 => (r ρ1).bind fun xs ρ2 => .ok (x :: xs) ρ2
def oTup (o : O (List D)) : O D := fun ρ => (o ρ).bind fun ds ρ1 => if ds.length ≤ 16000000 then .ok (.tuple ds) ρ1 else .st
def oLst (o : O (List D)) : O Rs := fun ρ => (o ρ).bind fun ds ρ1 => if ds.length ≤ 16000000 then .ok (.nw (.li ds)) ρ1 else .st
section
variable {X : Cx} {G : Gm} {B : Wish} {e : Expr} {es : List Expr} {pos : Pos}
theorem VasR.mono {K : PySem.W.Frag} {Z Z' : Hp} {ρ ρ' : Rho} {σ : St} {H H' : Hp} {vs : List V} {as : List Va} (h : VasR K Z ρ σ H vs as) (e : Same Z Z') : VasR K Z' ρ' σ H' vs as :=
  Paired.mapP h fun _ _ r => VaR.mono r e
theorem qd_nil : QD X G B [] oNil := pa_imp pa_nil fun σ H Q ⟨Z, ρ, S, p⟩ => p [] Z H (.refl _) S .nil
theorem qd_cons {o : O D} {o' : O (List D)} (h : PD X G B e o) (h' : QD X G B es o') (hs : starEach (e :: es) X.env = (false, eval e X.env) :: starEach es X.env := by rfl) : QD X G B (e :: es) (oCons o o') :=
  pa_imp (pa_cons h h' hs) fun σ H Q w => run_imp w fun x d ρ1 Z1 H1 S1 r1 p1 => ⟨Z1, ρ1, S1, Post.bind p1 fun xs ds ρ2 Z2 H2 e2 S2 r2 p2 => p2 _ Z2 H2 (.refl _) S2 (.cons (Rp.mono r1 e2) r2)⟩
theorem ad_nil : AD X G B [] oNil := pa_imp pa_nil fun σ H Q ⟨Z, ρ, S, p⟩ => p [] Z H (.refl _) S .nil
theorem ad_cons {o : O Va} {o' : O (List Va)} (h : ED X G B e o) (h' : AD X G B es o') (hs : starEach (e :: es) X.env = (false, eval e X.env) :: starEach es X.env := by rfl) : AD X G B (e :: es) (oCons o o') :=
  pa_imp (pa_cons h h' hs) fun σ H Q w => run_imp w fun x d ρ1 Z1 H1 S1 r1 p1 => ⟨Z1, ρ1, S1, Post.bind p1 fun xs ds ρ2 Z2 H2 e2 S2 r2 p2 => p2 _ Z2 H2 (.refl _) S2 (.cons (VaR.mono r1 e2) r2)⟩
theorem pd_tup {o : O (List D)} {k} (h : QD X G B es o) : PD X G B (.Tuple es k pos) (oTup o) :=
  pe_imp (pe_tup h) fun σ H Q w => run_imp w fun vs ds ρ1 Z1 H1 S1 r1 p1 => by
    split at p1
    · rename_i hz
      refine ⟨by rw [RpAll.length r1]; exact lim_le hz, fun p hp => ?_⟩
      have g := Grow.still S1.zh hp (.tup vs)
      exact p1 _ _ _ g.z (S1.grow g) (.tup upd_same (RpAll.mono r1 g.z))
    · exact p1.elim
theorem rd_lst {o : O (List D)} (h : QD X G B es o) : RD X G B (.List es pos) (oLst o) :=
  pe_imp (pe_lst h) fun σ H Q w => run_imp w fun vs ds ρ1 Z1 H1 S1 r1 p1 => by
    split at p1
    · rename_i hz
      refine ⟨by rw [RpAll.length r1]; exact lim_le hz, fun p hp => ?_⟩
      exact p1.fin S1 (.loose S1.zh hp _) ⟨p, _, rfl, hp, S1.fresh hp, upd_same, r1⟩
    · exact p1.elim
end
/-! ### subscripts, slices -/
def fIx : D → D → Option Rs
  | .list xs, .int i => (atI xs i).map .pu
  | .tuple xs, .int i => (atI xs i).map .pu
  | .str x, .int i => if x.length ≤ 16000000 then (atI x.cps.toList i).map fun c => .pu (.str ⟨#[c]⟩) else none
  | .dict [(.none, .list xs)], .int i => (atI xs i).map .pu
  | .dict [(.bool true, .tuple xs)], .int i => (atI xs i).map .pu
  | _, _ => none
theorem atI_rp {K : PySem.W.Frag} {Z : Hp} {vs : List V} {ds : List D} {i : Int} {d : D} (r : RpAll K Z vs ds) (h : atI ds i = some d) : ∃ v, atI vs i = some v ∧ Rp K Z v d := by
  unfold atI at h ⊢
  rw [r.length]
  cases e : ixN ds.length i with
  | none => rw [e] at h; cases h
  | some j =>
    rw [e] at h
    exact r.get h
theorem binS_ix {K : PySem.W.Frag} : BinS K (rIx K) fIx := by
  intro x y dx dy R Z H Q e rx ry hf k
  unfold fIx at hf
  split at hf
  · rename_i xs i
    cases h : atI xs i with
    | none => rw [h] at hf; cases hf
    | some d =>
      rw [h] at hf; cases hf
      obtain ⟨a, vs, rfl, ha, ra⟩ := rx.list e
      obtain ⟨v, hv, rv⟩ := atI_rp ra h
      exact .inl ⟨a, vs, i, v, rfl, ry.int, SqL.of ha, hv, k v Z H (.refl e) rv⟩
  · rename_i xs i
    cases h : atI xs i with
    | none => rw [h] at hf; cases hf
    | some d =>
      rw [h] at hf; cases hf
      obtain ⟨a, vs, rfl, ha, ra, _⟩ := rx.tup e
      obtain ⟨v, hv, rv⟩ := atI_rp ra h
      exact .inr (.inl ⟨a, vs, i, v, rfl, ry.int, SqT.of ha, hv, k v Z H (.refl e) rv⟩)
  · rename_i x i
    split at hf
    · cases h : atI x.cps.toList i with
      | none => rw [h] at hf; cases hf
      | some d =>
        rw [h] at hf; cases hf
        exact .inr (.inr ⟨x, i, d, rx.str, ry.int, lim_le ‹_›, h, k _ Z H (.refl e) (.str _)⟩)
    · cases hf
  · rename_i xs i
    cases h : atI xs i with
    | none => rw [h] at hf; cases hf
    | some d =>
      rw [h] at hf; cases hf
      obtain ⟨a, vs, rfl, ha, ra⟩ := rx.scr e
      obtain ⟨v, hv, rv⟩ := atI_rp ra h
      exact .inl ⟨a, vs, i, v, rfl, ry.int, ha, hv, k v Z H (.refl e) rv⟩
  · rename_i xs i
    cases h : atI xs i with
    | none => rw [h] at hf; cases hf
    | some d =>
      rw [h] at hf; cases hf
      obtain ⟨a, vs, rfl, ha, ra⟩ := rx.kon e
      obtain ⟨v, hv, rv⟩ := atI_rp ra h
      exact .inr (.inl ⟨a, vs, i, v, rfl, ry.int, ha, hv, k v Z H (.refl e) rv⟩)
  · cases hf
section
variable {X : Cx} {G : Gm} {B : Wish} {a b e : Expr} {es : List Expr} {pos p2 : Pos} {oa ob : O Va}
theorem rd_ix (ha : ED X G B a oa) (hb : ED X G B b ob) (hs : PlainIx b := by exact fun _ _ => rfl) : RD X G B (.Subscript a b pos) (oBin fIx oa ob) :=
  pe_imp (pe_ix ix_seq ha hb hs) fun _ _ _ w => run_bin binS_ix w
end
def cutD {α : Type} (xs : List α) (lo hi : Option Int) : List α := (xs.drop (HT.sIx xs.length 0 lo)).take (HT.sIx xs.length xs.length hi - HT.sIx xs.length 0 lo)
def fSl : D → Option Int → Option Int → Option Rs
  | .list xs, lo, hi => some (.nw (.li (cutD xs lo hi)))
  | .tuple xs, lo, hi => some (.pu (.tuple (cutD xs lo hi)))
  | .str x, lo, hi => if x.length ≤ 16000000 then some (.pu (.str (cutS x lo hi))) else none
  | _, _, _ => none
def OpR' : Rel (Option Int) (Option Int) := fun _ _ _ _ a b => a = b
def OD (X : Cx) (G : Gm) (B : Wish) (e : Option Expr) (o : O (Option Int)) : Prop := PO X e (Run X.K G B OpR' o)
def part1 (d : D) (ρ : Rho) : M (Option Int) := match d with
  | .int i => .ok (some i) ρ
  | _ => .st
@[simp] theorem part1_i (i : Int) (ρ : Rho) : part1 (.int i) ρ = .ok (some i) ρ := rfl
def oPart (o : O D) : O (Option Int) := fun ρ => (o ρ).bind part1
def oNoPart : O (Option Int) := fun ρ => .ok none ρ
def sl1 (a : Va) (lo hi : Option Int) (ρ : Rho) : M Rs := match rdV ρ a with
  | some d => match fSl d lo hi with
    | some r => .ok r ρ
    | none => .st
  | none => .st
def oSl (oa : O Va) (ol oh : O (Option Int)) : O Rs := fun ρ => (oa ρ).bind fun a ρ1 => (ol ρ1).bind fun lo ρ2 => (oh ρ2).bind fun hi ρ3 => sl1 a lo hi ρ3
section
variable {X : Cx} {G : Gm} {B : Wish} {a b e : Expr} {lo hi : Option Expr} {es : List Expr} {pos p2 : Pos} {oa ob : O Va}
theorem po_imp {e : Option Expr} {t t' : TO} (h : PO X e t) (k : ∀ σ H Q, t' σ H Q → t σ H Q) : PO X e t' := ⟨fun pins s σ H Q I w => h.run pins s σ H Q I (k _ _ _ w)⟩
theorem od_some {o : O D} (h : PD X G B e o) : OD X G B (some e) (oPart o) := po_imp (po_some h) fun σ H Q w => run_imp w fun x d ρ1 Z1 H1 S1 r1 p1 => by
  unfold part1 at p1
  split at p1
  · rename_i i
    have q : Rp X.K Z1 x (.int i) := r1
    cases q
    exact ⟨i, rfl, p1 _ Z1 H1 (.refl _) S1 rfl⟩
  · exact p1.elim
theorem od_none : OD X G B none oNoPart := po_imp po_none fun σ H Q ⟨Z, ρ, S, p⟩ => p none Z H (.refl _) S rfl
theorem SlR.or {r r' : V → Option Int → Option Int → Hp → VK → Prop} (h : SlR X r) (h' : SlR X r') : SlR X (fun x lo hi H Q => r x lo hi H Q ∨ r' x lo hi H Q) :=
  fun pins s σ H x v vl vu lo hi sl Q I rx hs pl pu w => w.elim (h pins s σ H x v vl vu lo hi sl Q I rx hs pl pu) (h' pins s σ H x v vl vu lo hi sl Q I rx hs pl pu)
theorem rd_sl {ol oh : O (Option Int)} (ha : ED X G B a oa) (hl : OD X G B lo ol) (hh : OD X G B hi oh) : RD X G B (.Subscript a (.Slice lo hi none p2) pos) (oSl oa ol oh) :=
  pe_imp (pe_slice (SlR.or sl_list (SlR.or sl_tupA sl_str)) ha hl hh) fun σ H Q w => run_imp w fun x va ρ1 Z1 H1 S1 r1 p1 =>
    ⟨Z1, ρ1, S1, Post.bind p1 fun l l' ρ2 Z2 H2 e2 S2 r2 p2 => ⟨Z2, ρ2, S2, Post.bind p2 fun u u' ρ3 Z3 H3 e3 S3 r3 p3 => by
      have r2 : l = l' := r2
      have r3 : u = u' := r3
      subst r2 r3
      unfold sl1 at p3
      split at p3
      · rename_i d hd
        have rd := S3.rdb (r1.mono (ρ' := ρ3) (H' := H3) (e2.trans e3)) hd
        have e := S3.zh
        unfold fSl at p3
        split at p3
        · rename_i R hR
          split at hR
          · cases hR
            rename_i xs
            obtain ⟨b, vs, rfl, hb, rb⟩ := rd.list e
            refine .inl ⟨b, vs, rfl, SqL.of hb, fun p hp => ?_⟩
            refine p3.fin S3 (.loose e hp _) ⟨p, _, rfl, hp, S3.fresh hp, upd_same, ?_⟩
            show RpAll X.K Z3 (cutV vs l u) (cutD xs l u)
            unfold cutV cutD
            rw [rb.length]
            exact (rb.drop _).take _
          · cases hR
            rename_i xs
            obtain ⟨b, vs, rfl, hb, rb, qb⟩ := rd.tup e
            have hl := rb.length
            refine .inr (.inl ⟨b, vs, rfl, SqT.of hb, fun hw => ?_, fun hw p hp => ?_⟩)
            · refine p3.fin S3 (.refl e) ?_
              have q : cutD xs l u = xs := by
                unfold cutD
                rw [hl] at hw
                rw [hw.1, hw.2, List.drop_zero, Nat.sub_zero, List.take_length]
              show Rp X.K Z3 _ (.tuple (cutD xs l u))
              rw [q]
              exact qb
            · have g := Grow.still e hp (.tup (cutV vs l u))
              refine p3.fin S3 g (.tup upd_same (RpAll.mono ?_ g.z))
              unfold cutV cutD
              rw [rb.length]
              exact (rb.drop _).take _
          · split at hR
            · cases hR
              exact .inr (.inr ⟨_, rd.str, lim_le ‹_›, p3.fin S3 (.refl e) (.str _)⟩)
            · cases hR
          · cases hR
        · exact p3.elim
      · exact p3.elim⟩⟩
end
/-! ### built-ins by their arguments -/
def rdVs (ρ : Rho) : List Va → Option (List D)
  | [] => some []
  | a :: as => match rdV ρ a, rdVs ρ as with
    | some d, some ds => some (d :: ds)
    | _, _ => none
@[simp] theorem rdVs_nil (ρ : Rho) : rdVs ρ [] = some [] := rfl
@[simp] theorem rdVs_cons (ρ : Rho) (a : Va) (as : List Va) : rdVs ρ (a :: as) = match rdV ρ a, rdVs ρ as with | some d, some ds => some (d :: ds) | _, _ => none := rfl
theorem Sim.rdbs {K : PySem.W.Frag} {G : Gm} {Z : Hp} {ρ ρ' : Rho} {σ : St} {H H' : Hp} (S : Sim K G Z ρ σ H) : ∀ {as : List Va} {vs : List V} {ds : List D}, VasR K Z ρ' σ H' vs as → rdVs ρ as = some ds → Paired (Rdb K Z H) vs ds
  | [], _, _, h, e => by cases h; cases e; exact .nil
  | a :: as, _, _, h, e => by
    cases h with
    | cons h1 h2 =>
      unfold rdVs at e
      split at e
      · cases e
        exact .cons (S.rdb h1 ‹_›) (Sim.rdbs S h2 ‹_›)
      · cases e
def CallS (K : PySem.W.Frag) (r : List V → Hp → VK → Prop) (f : List D → Option Rs) : Prop := ∀ (vs : List V) (ds : List D) (R : Rs) (Z H : Hp) (Q : VK), Same Z H → Paired (Rdb K Z H) vs ds → f ds = some R →
  (∀ v Z' H', Grow Z H Z' H' → ResG K Z' H H' v R → Q v H') → r vs H Q
def cb1 (f : List D → Option Rs) (as : List Va) (ρ : Rho) : M Rs := match rdVs ρ as with
  | some ds => match f ds with
    | some r => .ok r ρ
    | none => .st
  | none => .st
def oCB (f : List D → Option Rs) (oas : O (List Va)) : O Rs := fun ρ => (oas ρ).bind (cb1 f)
section
variable {X : Cx} {G : Gm} {B : Wish} {x : Str} {p pos : Pos} {e o : Expr} {es : List Expr} {id T : String} {r : List V → Hp → VK → Prop} {f : List D → Option Rs} {oas : O (List Va)}
theorem run_cb {K : PySem.W.Frag} (hf : CallS K r f) {σ : St} {H : Hp} {Q : VK} (w : Run K G B (RsR K G) (oCB f oas) σ H Q) : tCB r (Run K G B (VasR K) oas) σ H Q :=
  run_imp (C := fun vs H1 => r vs H1 Q) w fun vs as ρ1 Z1 H1 S1 r1 p1 => by
    unfold cb1 at p1
    split at p1
    · rename_i ds hd
      split at p1
      · rename_i R hR
        exact hf vs ds R Z1 H1 Q S1.zh (S1.rdbs r1 hd) hR fun v Z' H' g h => p1.fin S1 g h
      · exact p1.elim
    · exact p1.elim
theorem rd_callB (hc : CallR X (.builtin id) r) (hf : CallS X.K r f) (hg : Gl X x) (hm : X.mg x = none) (hv : bootBuiltins x = some (.builtin id)) (ha : AD X G B (e :: es) oas) (hn : x ≠ "__name__" := by decide) (hdb : (x == ("__debug__" : Str)) = false := by decide)
    (he : starEach (e :: es) X.env = (false, eval e X.env) :: starEach es X.env := by rfl) (hpl : (backTo pos (starEach es X.env)).any (·.1) = false := by rfl) : RD X G B (.Call (.Name x p) (e :: es) [] pos) (oCB f oas) :=
  pe_imp (pe_callB hc hg hm hv ha hn hdb he hpl) fun _ _ _ w => run_cb hf w
theorem rd_callTy (hc : CallR X (.type T) r) (hf : CallS X.K r f) (hg : Gl X x) (hm : X.mg x = none) (hv : bootBuiltins x = some (.type T)) (ha : AD X G B (e :: es) oas) (hn : x ≠ "__name__" := by decide) (hdb : (x == ("__debug__" : Str)) = false := by decide)
    (he : starEach (e :: es) X.env = (false, eval e X.env) :: starEach es X.env := by rfl) (hpl : (backTo pos (starEach es X.env)).any (·.1) = false := by rfl) : RD X G B (.Call (.Name x p) (e :: es) [] pos) (oCB f oas) :=
  pe_imp (pe_callTy hc hg hm hv ha hn hdb he hpl) fun _ _ _ w => run_cb hf w
end
/-! ### methods of built-in things, that change nothing -/
def MetS (K : PySem.W.Frag) (r : V → List V → Hp → VK → Prop) (f : D → List D → Option Rs) : Prop := ∀ (x : V) (d : D) (vs : List V) (ds : List D) (R : Rs) (Z H : Hp) (Q : VK), Same Z H → Rdb K Z H x d → Paired (Rdb K Z H) vs ds → f d ds = some R →
  (∀ v Z' H', Grow Z H Z' H' → ResG K Z' H H' v R → Q v H') → r x vs H Q
def met1 (f : D → List D → Option Rs) (a : Va) (as : List Va) (ρ : Rho) : M Rs := match rdV ρ a, rdVs ρ as with
  | some d, some ds => match f d ds with
    | some r => .ok r ρ
    | none => .st
  | _, _ => .st
def isTy (T : String) (d : D) : Bool := match d with
  | .str _ => T == "str"
  | .list _ => T == "list"
  | .int _ => T == "int"
  | _ => false
def ty1 (T : String) (a : Va) (ρ : Rho) (m : M Rs) : M Rs := match rdV ρ a with
  | some d => if isTy T d = true then m else .st
  | none => .st
def oBM (T : String) (f : D → List D → Option Rs) (oo : O Va) (oas : O (List Va)) : O Rs := fun ρ => (oo ρ).bind fun a ρ1 => ty1 T a ρ1 ((oas ρ1).bind fun as ρ2 => met1 f a as ρ2)
def oBM0 (T : String) (f : D → List D → Option Rs) (oo : O Va) : O Rs := fun ρ => (oo ρ).bind fun a ρ1 => ty1 T a ρ1 (met1 f a [] ρ1)
theorem isTy_v {K : PySem.W.Frag} {Z H : Hp} {x : V} {d : D} {T : String} (h : isTy T d = true) (r : Rdb K Z H x d) (e : Same Z H) : tyV K T x H := by
  unfold isTy at h
  split at h
  · rw [r.str]; exact eq_of_beq h
  · obtain ⟨a, vs, rfl, ha, _⟩ := r.list e; exact .inl ⟨eq_of_beq h, vs, SqL.of ha⟩
  · rw [r.int]; exact eq_of_beq h
  · cases h
section
variable {X : Cx} {G : Gm} {B : Wish} {name : Str} {apos cpos : Pos} {e o : Expr} {es : List Expr} {id T : String} {r : V → List V → Hp → VK → Prop} {f : D → List D → Option Rs} {oo : O Va} {oas : O (List Va)}
theorem rd_bm (pa : PlainAttrs T) (slot : Slot T name id) (hty : typeOf (.builtin id) = pure (.type "method_descriptor")) (hm : MtR X id r) (hf : MetS X.K r f) (ho : ED X G B o oo) (ha : AD X G B (e :: es) oas)
    (hbase : attributeBase o name X.env (eval o X.env) = eval o X.env := by rfl)
    (hfew : ((backTo cpos (starEach (e :: es) X.env)).all (fun x => !x.1) && (backToKw cpos (keywordEach [] X.env)).all (fun x => x.1.isSome)
      && decide ((e :: es).length + ([] : List Keyword).length + (if ([] : List Keyword).isEmpty then 0 else 1) < 30)) = true := by rfl)
    (hline : (apos.endLine == cpos.line) = true := by rfl) (hs : starEach (e :: es) X.env = (false, eval e X.env) :: starEach es X.env := by rfl) (hplain : (backTo cpos (starEach es X.env)).any (·.1) = false := by rfl) :
    RD X G B (.Call (.Attribute o name apos) (e :: es) [] cpos) (oBM T f oo oas) :=
  pe_imp (pe_bm pa slot hty hm ho ha hbase hfew hline hs hplain) fun σ H Q w => run_imp w fun x va ρ1 Z1 H1 S1 r1 p1 => by
    unfold ty1 at p1
    split at p1
    · rename_i d hd
      split at p1
      · rename_i ht
        refine ⟨isTy_v ht (S1.rdb r1 hd) S1.zh, Z1, ρ1, S1, Post.bind p1 fun vs as ρ2 Z2 H2 e2 S2 r2 p2 => ?_⟩
        unfold met1 at p2
        split at p2
        · rename_i d' ds hd' hds
          split at p2
          · rename_i R hR
            exact hf x d' vs ds R Z2 H2 Q S2.zh (S2.rdb (r1.mono (ρ' := ρ2) (H' := H2) e2) hd') (S2.rdbs r2 hds) hR fun v Z' H' g h => p2.fin S2 g h
          · exact p2.elim
        · exact p2.elim
      · exact p1.elim
    · exact p1.elim
theorem rd_bm0 (pa : PlainAttrs T) (slot : Slot T name id) (hty : typeOf (.builtin id) = pure (.type "method_descriptor")) (hm : MtR X id r) (hf : MetS X.K r f) (ho : ED X G B o oo)
    (hbase : attributeBase o name X.env (eval o X.env) = eval o X.env := by rfl) (hline : (apos.endLine == cpos.line) = true := by rfl) : RD X G B (.Call (.Attribute o name apos) [] [] cpos) (oBM0 T f oo) :=
  pe_imp (pe_bm0 pa slot hty hm ho hbase hline) fun σ H Q w => run_imp w fun x va ρ1 Z1 H1 S1 r1 p1 => by
    unfold ty1 at p1
    split at p1
    · rename_i d hd
      split at p1
      · rename_i ht
        refine ⟨isTy_v ht (S1.rdb r1 hd) S1.zh, ?_⟩
        unfold met1 at p1
        split at p1
        · rename_i d' ds hd' hds
          split at p1
          · rename_i R hR
            cases hds
            exact hf x d' [] [] R Z1 H1 Q S1.zh (S1.rdb r1 hd') .nil hR fun v Z' H' g h => p1.fin S1 g h
          · exact p1.elim
        · exact p1.elim
      · exact p1.elim
    · exact p1.elim
end
end Ow
namespace Ow
open PySem L2
theorem Paired.one {α β : Type} {G : α → β → Prop} {vs : List α} {d : β} (h : Paired G vs [d]) : ∃ v, vs = [v] ∧ G v d := by
  cases h with
  | cons h1 h2 => cases h2; exact ⟨_, rfl, h1⟩
theorem Paired.two {α β : Type} {G : α → β → Prop} {vs : List α} {d e : β} (h : Paired G vs [d, e]) : ∃ v w, vs = [v, w] ∧ G v d ∧ G w e := by
  cases h with
  | cons h1 h2 => obtain ⟨w, rfl, h3⟩ := Paired.one h2; exact ⟨_, _, rfl, h1, h3⟩
def intsOf : List D → Option (List Int)
  | [] => some []
  | .int i :: r => (intsOf r).map (i :: ·)
  | _ :: _ => none
def strsOf : List D → Option (List Str)
  | [] => some []
  | .str i :: r => (strsOf r).map (i :: ·)
  | _ :: _ => none
def boolsOf : List D → Option (List Bool)
  | [] => some []
  | .bool i :: r => (boolsOf r).map (i :: ·)
  | _ :: _ => none
theorem intsOf_eq : ∀ {ds : List D} {ns : List Int}, intsOf ds = some ns → ds = ns.map PyData.int
  | [], _, h => by cases h; rfl
  | d :: r, ns, h => by
    unfold intsOf at h
    split at h
    · rename_i e; cases e
    · rename_i i r' e
      cases e
      cases q : intsOf r with
      | none => rw [q] at h; cases h
      | some ms => rw [q] at h; cases h; rw [intsOf_eq q]; rfl
    · cases h
theorem strsOf_eq : ∀ {ds : List D} {ns : List Str}, strsOf ds = some ns → ds = ns.map PyData.str
  | [], _, h => by cases h; rfl
  | d :: r, ns, h => by
    unfold strsOf at h
    split at h
    · rename_i e; cases e
    · rename_i i r' e
      cases e
      cases q : strsOf r with
      | none => rw [q] at h; cases h
      | some ms => rw [q] at h; cases h; rw [strsOf_eq q]; rfl
    · cases h
theorem boolsOf_eq : ∀ {ds : List D} {ns : List Bool}, boolsOf ds = some ns → ds = ns.map PyData.bool
  | [], _, h => by cases h; rfl
  | d :: r, ns, h => by
    unfold boolsOf at h
    split at h
    · rename_i e; cases e
    · rename_i i r' e
      cases e
      cases q : boolsOf r with
      | none => rw [q] at h; cases h
      | some ms => rw [q] at h; cases h; rw [boolsOf_eq q]; rfl
    · cases h
@[simp] theorem intsOf_map (ns : List Int) : intsOf (ns.map PyData.int) = some ns := by
  induction ns with
  | nil => rfl
  | cons n r ih => simp [intsOf, ih]
@[simp] theorem strsOf_map (ns : List Str) : strsOf (ns.map PyData.str) = some ns := by
  induction ns with
  | nil => rfl
  | cons n r ih => simp [strsOf, ih]
@[simp] theorem boolsOf_map (ns : List Bool) : boolsOf (ns.map PyData.bool) = some ns := by
  induction ns with
  | nil => rfl
  | cons n r ih => simp [boolsOf, ih]
/-! ### len -/
def fLen : D → Option Nat
  | .str x => if x.length ≤ 16000000 then some x.length else none
  | .list xs => some xs.length
  | .tuple xs => some xs.length
  | .dict [(.none, .list xs)] => some xs.length
  | .dict [(.bool true, .tuple xs)] => some xs.length
  | _ => none
def len1 (a : Va) (ρ : Rho) : M Rs := match rdV ρ a with
  | some d => match fLen d with
    | some n => .ok (.pu (.int n)) ρ
    | none => .st
  | none => match a with
    | .rf i => match ρ[i]? with
      | some (.ow _ (.dk kvs)) => .ok (.pu (.int kvs.length)) ρ
      | _ => .st
    | _ => .st
def oLen (o : O Va) : O Rs := fun ρ => (o ρ).bind len1
@[simp] theorem len1_pu (d : D) (ρ : Rho) : len1 (.pu d) ρ = match fLen d with | some n => .ok (.pu (.int n)) ρ | none => .st := by
  unfold len1
  rw [rdV_pu]
theorem CallR.or {X : Cx} {f : Value} {r r' : List V → Hp → VK → Prop} (h : CallR X f r) (h' : CallR X f r') : CallR X f (fun x H Q => r x H Q ∨ r' x H Q) :=
  fun pins s σ H xs us Q I q w => w.elim (h pins s σ H xs us Q I q) (h' pins s σ H xs us Q I q)
section
variable {X : Cx} {G : Gm} {B : Wish} {p pos : Pos} {e e2 : Expr} {es : List Expr} {oa ob : O Va}
theorem rd_len (hg : Gl X "len") (hm : X.mg "len" = none) (ha : ED X G B e oa) (hs : starEach [e] X.env = (false, eval e X.env) :: starEach [] X.env := by rfl) : RD X G B (.Call (.Name "len" p) [e] [] pos) (oLen oa) :=
  pe_imp (pe_callB (CallR.or call_len call_lenD) hg hm PySem.boot_len (pa_cons ha pa_nil hs) (he := hs) (hpl := rfl)) fun σ H Q w => run_imp w fun x va ρ1 Z1 H1 S1 r1 p1 => by
    unfold len1 at p1
    split at p1
    · rename_i d hd
      have rd := S1.rdb r1 hd
      split at p1
      · rename_i n hn
        refine .inl ⟨x, n, rfl, ?_, p1.fin S1 (.refl S1.zh) (.int _)⟩
        unfold fLen at hn
        split at hn
        · split at hn
          · cases hn; rw [rd.str]; exact ⟨lim_le ‹_›, rfl⟩
          · cases hn
        · cases hn
          obtain ⟨b, vs, rfl, hb, rb⟩ := rd.list S1.zh
          exact .inl ⟨vs, SqL.of hb, rb.length.symm⟩
        · cases hn
          obtain ⟨b, vs, rfl, hb, rb, _⟩ := rd.tup S1.zh
          exact .inr ⟨vs, SqT.of hb, rb.length.symm⟩
        · cases hn
          obtain ⟨b, vs, rfl, hb, rb⟩ := rd.scr S1.zh
          exact .inl ⟨vs, hb, rb.length.symm⟩
        · cases hn
          obtain ⟨b, vs, rfl, hb, rb⟩ := rd.kon S1.zh
          exact .inr ⟨vs, hb, rb.length.symm⟩
        · cases hn
      · exact p1.elim
    · split at p1
      · rename_i i _
        split at p1
        · rename_i pn kvs hr
          obtain ⟨b, o, q1, ho, r, _⟩ := S1.ow i _ _ hr
          have q' : σ[i]? = some (some x) := r1
          rw [q1] at q'; cases q'
          cases o with
          | dK vs =>
            refine .inr ⟨b, vs, rfl, ho, ?_⟩
            have hl : vs.length = kvs.length := Paired.length (show KvR X.K Z1 vs kvs from r)
            rw [hl]
            exact p1.fin S1 (.refl S1.zh) (.int _)
          | _ => exact r.elim
        · exact p1.elim
      · exact p1.elim
end
/-! ### list(..), tuple(..) -/
def fList : List D → Option Rs
  | [.list xs] => some (.nw (.li xs))
  | [.tuple xs] => some (.nw (.li xs))
  | [.dict [(.none, .list xs)]] => some (.nw (.li xs))
  | _ => none
def fTuple : List D → Option Rs
  | [.list xs] => some (.pu (.tuple xs))
  | [.tuple xs] => some (.pu (.tuple xs))
  | _ => none
def fInt1 : List D → Option Rs
  | [.int i] => some (.pu (.int i))
  | [.bool b] => some (.pu (.int (if b then 1 else 0)))
  | _ => none
def fAbs : List D → Option Rs
  | [.int i] => some (.pu (.int (if i < 0 then -i else i)))
  | _ => none
def fMax2 : List D → Option Rs
  | [.int i, .int j] => some (.pu (.int (if j > i then j else i)))
  | _ => none
def fMin2 : List D → Option Rs
  | [.int i, .int j] => some (.pu (.int (if j < i then j else i)))
  | _ => none
def fStr1 : List D → Option Rs
  | [.int i] => if i.natAbs.log2 < 1920 then some (.pu (.str (toString i : String))) else none
  | _ => none
def maxI : List Int → Int
  | [] => 0
  | [x] => x
  | x :: r => if maxI r > x then maxI r else x
def minI : List Int → Int
  | [] => 0
  | [x] => x
  | x :: r => if minI r < x then minI r else x
def fSum : List D → Option Rs
  | [.list xs] => (intsOf xs).map fun ns => .pu (.int ns.sum)
  | _ => none
def fAll : List D → Option Rs
  | [.list xs] => (boolsOf xs).map fun ns => .pu (.bool (ns.all id))
  | _ => none
def fAny : List D → Option Rs
  | [.list xs] => (boolsOf xs).map fun ns => .pu (.bool (ns.any id))
  | _ => none
def fMax1 : List D → Option Rs
  | [.list xs] => match intsOf xs with
    | some (n :: ns) => some (.pu (.int (maxI (n :: ns))))
    | _ => none
  | _ => none
def fMin1 : List D → Option Rs
  | [.list xs] => match intsOf xs with
    | some (n :: ns) => some (.pu (.int (minI (n :: ns))))
    | _ => none
  | _ => none
def sortI (ns : List Int) : List Int := ns.mergeSort (fun a b => decide (a ≤ b))
def fSorted : List D → Option Rs
  | [.list xs] => (intsOf xs).map fun ns => .nw (.li ((sortI ns).map PyData.int))
  | _ => none
theorem maxI_ge : ∀ {ns : List Int}, ∀ y ∈ ns, y ≤ maxI ns
  | [x], y, h => by simp at h; simp [maxI, h]
  | x :: z :: r, y, h => by
    have ih := maxI_ge (ns := z :: r)
    unfold maxI
    rcases List.mem_cons.mp h with h | h
    · subst h; split <;> omega
    · have := ih y h; split <;> omega
theorem maxI_mem : ∀ {ns : List Int}, ns ≠ [] → maxI ns ∈ ns
  | [x], _ => by simp [maxI]
  | x :: z :: r, _ => by
    have ih := maxI_mem (ns := z :: r) (by simp)
    unfold maxI
    split
    · exact List.mem_cons_of_mem _ ih
    · exact List.mem_cons_self
theorem minI_le : ∀ {ns : List Int}, ∀ y ∈ ns, minI ns ≤ y
  | [x], y, h => by simp at h; simp [minI, h]
  | x :: z :: r, y, h => by
    have ih := minI_le (ns := z :: r)
    unfold minI
    rcases List.mem_cons.mp h with h | h
    · subst h; split <;> omega
    · have := ih y h; split <;> omega
theorem minI_mem : ∀ {ns : List Int}, ns ≠ [] → minI ns ∈ ns
  | [x], _ => by simp [minI]
  | x :: z :: r, _ => by
    have ih := minI_mem (ns := z :: r) (by simp)
    unfold minI
    split
    · exact List.mem_cons_of_mem _ ih
    · exact List.mem_cons_self
theorem sorted_unique : ∀ {l m : List Int}, l.Perm m → l.Pairwise (· ≤ ·) → m.Pairwise (· ≤ ·) → l = m
  | [], m, p, _, _ => by rw [List.nil_perm.mp p]
  | x :: l, [], p, _, _ => by have := p.length_eq; simp at this
  | x :: l, y :: m, p, h1, h2 => by
    have hx : x ∈ y :: m := p.mem_iff.mp List.mem_cons_self
    have hy : y ∈ x :: l := p.mem_iff.mpr List.mem_cons_self
    have e : x = y := by
      rcases List.mem_cons.mp hx with e | hx'
      · exact e
      · rcases List.mem_cons.mp hy with e | hy'
        · exact e.symm
        · have a := (List.pairwise_cons.mp h1).1 y hy'
          have b := (List.pairwise_cons.mp h2).1 x hx'
          omega
    subst e
    rw [sorted_unique (List.Perm.cons_inv p) (List.pairwise_cons.mp h1).2 (List.pairwise_cons.mp h2).2]
theorem sortI_perm (ns : List Int) : (sortI ns).Perm ns := List.mergeSort_perm ns _
theorem sortI_sorted (ns : List Int) : (sortI ns).Pairwise (· ≤ ·) := by
  have h := List.pairwise_mergeSort (le := fun (a b : Int) => decide (a ≤ b)) (fun a b c h1 h2 => by simp at *; omega) (fun a b => by simp; omega) ns
  exact h.imp fun h => of_decide_eq_true h
section
variable {K : PySem.W.Frag}
theorem callS_list : CallS K (fun xs H Q => ∃ p ys, xs = [.ref p] ∧ (SqL K H p ys ∨ SqT K H p ys) ∧ ∀ l, H l = none → Q (.ref l) (upd H l (.lst ys))) fList := by
  intro vs ds R Z H Q e r hf k
  unfold fList at hf
  split at hf
  · cases hf
    obtain ⟨v, rfl, r1⟩ := Paired.one r
    obtain ⟨b, ws, rfl, hb, rb⟩ := r1.list e
    exact ⟨b, ws, rfl, .inl (SqL.of hb), fun l hl => k _ Z _ (.loose e hl _) ⟨l, _, rfl, hl, none_of_same e hl, upd_same, rb⟩⟩
  · cases hf
    obtain ⟨v, rfl, r1⟩ := Paired.one r
    obtain ⟨b, ws, rfl, hb, rb, _⟩ := r1.tup e
    exact ⟨b, ws, rfl, .inr (SqT.of hb), fun l hl => k _ Z _ (.loose e hl _) ⟨l, _, rfl, hl, none_of_same e hl, upd_same, rb⟩⟩
  · cases hf
    obtain ⟨v, rfl, r1⟩ := Paired.one r
    obtain ⟨b, ws, rfl, hb, rb⟩ := r1.scr e
    exact ⟨b, ws, rfl, .inl hb, fun l hl => k _ Z _ (.loose e hl _) ⟨l, _, rfl, hl, none_of_same e hl, upd_same, rb⟩⟩
  · cases hf
theorem callS_tuple : CallS K (fun xs H Q => ∃ p ys, xs = [.ref p] ∧ ((SqL K H p ys ∧ ∀ l, H l = none → Q (.ref l) (upd H l (.tup ys))) ∨ (SqT K H p ys ∧ Q (.ref p) H))) fTuple := by
  intro vs ds R Z H Q e r hf k
  unfold fTuple at hf
  split at hf
  · cases hf
    obtain ⟨v, rfl, r1⟩ := Paired.one r
    obtain ⟨b, ws, rfl, hb, rb⟩ := r1.list e
    refine ⟨b, ws, rfl, .inl ⟨SqL.of hb, fun l hl => ?_⟩⟩
    have g := Grow.still e hl (.tup ws)
    exact k _ _ _ g (.tup upd_same (RpAll.mono rb g.z))
  · cases hf
    obtain ⟨v, rfl, r1⟩ := Paired.one r
    obtain ⟨b, ws, rfl, hb, rb, q⟩ := r1.tup e
    exact ⟨b, ws, rfl, .inr ⟨SqT.of hb, k _ Z H (.refl e) q⟩⟩
  · cases hf
theorem callS_int : CallS K (fun xs H Q => (∃ i, xs = [.int i] ∧ Q (.int i) H) ∨ ∃ k, xs = [.bl k] ∧ Q (.int (if k then 1 else 0)) H) fInt1 := by
  intro vs ds R Z H Q e r hf k
  unfold fInt1 at hf
  split at hf
  · cases hf
    obtain ⟨v, rfl, r1⟩ := Paired.one r
    rw [r1.int]
    exact .inl ⟨_, rfl, k _ Z H (.refl e) (.int _)⟩
  · cases hf
    obtain ⟨v, rfl, r1⟩ := Paired.one r
    rw [r1.bl]
    exact .inr ⟨_, rfl, k _ Z H (.refl e) (.int _)⟩
  · cases hf
theorem callS_abs : CallS K (fun xs H Q => ∃ i, xs = [.int i] ∧ Q (.int (if i < 0 then -i else i)) H) fAbs := by
  intro vs ds R Z H Q e r hf k
  unfold fAbs at hf
  split at hf
  · cases hf
    obtain ⟨v, rfl, r1⟩ := Paired.one r
    rw [r1.int]
    exact ⟨_, rfl, k _ Z H (.refl e) (.int _)⟩
  · cases hf
theorem callS_str : CallS K (fun xs H Q => ∃ i, xs = [.int i] ∧ i.natAbs.log2 < 1920 ∧ Q (.str (toString i : String)) H) fStr1 := by
  intro vs ds R Z H Q e r hf k
  unfold fStr1 at hf
  split at hf
  · split at hf
    · cases hf
      obtain ⟨v, rfl, r1⟩ := Paired.one r
      rw [r1.int]
      exact ⟨_, rfl, ‹_›, k _ Z H (.refl e) (.str _)⟩
    · cases hf
  · cases hf
theorem callS_max2 : CallS K (fun xs H Q => ∃ i j, xs = [.int i, .int j] ∧ Q (.int (if j > i then j else i)) H) fMax2 := by
  intro vs ds R Z H Q e r hf k
  unfold fMax2 at hf
  split at hf
  · cases hf
    obtain ⟨v, w, rfl, r1, r2⟩ := Paired.two r
    rw [r1.int, r2.int]
    exact ⟨_, _, rfl, k _ Z H (.refl e) (.int _)⟩
  · cases hf
theorem callS_min2 : CallS K (fun xs H Q => ∃ i j, xs = [.int i, .int j] ∧ Q (.int (if j < i then j else i)) H) fMin2 := by
  intro vs ds R Z H Q e r hf k
  unfold fMin2 at hf
  split at hf
  · cases hf
    obtain ⟨v, w, rfl, r1, r2⟩ := Paired.two r
    rw [r1.int, r2.int]
    exact ⟨_, _, rfl, k _ Z H (.refl e) (.int _)⟩
  · cases hf
theorem ints_arg {Z H : Hp} {vs : List V} {xs : List D} {ns : List Int} (e : Same Z H) (r : Paired (Rdb K Z H) vs [.list xs]) (h : intsOf xs = some ns) : ∃ a, vs = [.ref a] ∧ SqL K H a (ns.map V.int) := by
  obtain ⟨v, rfl, r1⟩ := Paired.one r
  obtain ⟨b, ws, rfl, hb, rb⟩ := r1.list e
  rw [intsOf_eq h] at rb
  rw [rb.of_ints] at hb
  exact ⟨b, rfl, SqL.of hb⟩
theorem bools_arg {Z H : Hp} {vs : List V} {xs : List D} {ns : List Bool} (e : Same Z H) (r : Paired (Rdb K Z H) vs [.list xs]) (h : boolsOf xs = some ns) : ∃ a, vs = [.ref a] ∧ SqL K H a (ns.map V.bl) := by
  obtain ⟨v, rfl, r1⟩ := Paired.one r
  obtain ⟨b, ws, rfl, hb, rb⟩ := r1.list e
  rw [boolsOf_eq h] at rb
  rw [rb.of_bools] at hb
  exact ⟨b, rfl, SqL.of hb⟩
theorem callS_sum : CallS K (rSum K) fSum := by
  intro vs ds R Z H Q e r hf k
  unfold fSum at hf
  split at hf
  · rename_i xs
    cases q : intsOf xs with
    | none => rw [q] at hf; cases hf
    | some ns =>
      rw [q] at hf; cases hf
      obtain ⟨a, rfl, ha⟩ := ints_arg e r q
      exact ⟨a, ns, rfl, ha, k _ Z H (.refl e) (.int _)⟩
  · cases hf
theorem callS_all : CallS K (rAll K) fAll := by
  intro vs ds R Z H Q e r hf k
  unfold fAll at hf
  split at hf
  · rename_i xs
    cases q : boolsOf xs with
    | none => rw [q] at hf; cases hf
    | some ns =>
      rw [q] at hf; cases hf
      obtain ⟨a, rfl, ha⟩ := bools_arg e r q
      exact ⟨a, ns, rfl, ha, k _ Z H (.refl e) (.bl _)⟩
  · cases hf
theorem callS_any : CallS K (rAny K) fAny := by
  intro vs ds R Z H Q e r hf k
  unfold fAny at hf
  split at hf
  · rename_i xs
    cases q : boolsOf xs with
    | none => rw [q] at hf; cases hf
    | some ns =>
      rw [q] at hf; cases hf
      obtain ⟨a, rfl, ha⟩ := bools_arg e r q
      exact ⟨a, ns, rfl, ha, k _ Z H (.refl e) (.bl _)⟩
  · cases hf
theorem callS_max1 : CallS K (rMax K) fMax1 := by
  intro vs ds R Z H Q e r hf k
  unfold fMax1 at hf
  split at hf
  · rename_i xs
    split at hf
    · rename_i n ns q
      cases hf
      obtain ⟨a, rfl, ha⟩ := ints_arg e r q
      refine ⟨a, n :: ns, rfl, ha, by simp, fun m hm hle => ?_⟩
      have e1 : m = maxI (n :: ns) := by
        have h1 := maxI_ge m hm
        have h2 := hle _ (maxI_mem (ns := n :: ns) (by simp))
        omega
      rw [e1]
      exact k _ Z H (.refl e) (.int _)
    · cases hf
  · cases hf
theorem callS_min1 : CallS K (rMin K) fMin1 := by
  intro vs ds R Z H Q e r hf k
  unfold fMin1 at hf
  split at hf
  · rename_i xs
    split at hf
    · rename_i n ns q
      cases hf
      obtain ⟨a, rfl, ha⟩ := ints_arg e r q
      refine ⟨a, n :: ns, rfl, ha, by simp, fun m hm hle => ?_⟩
      have e1 : m = minI (n :: ns) := by
        have h1 := minI_le m hm
        have h2 := hle _ (minI_mem (ns := n :: ns) (by simp))
        omega
      rw [e1]
      exact k _ Z H (.refl e) (.int _)
    · cases hf
  · cases hf
theorem callS_sorted : CallS K (rSortedI K) fSorted := by
  intro vs ds R Z H Q e r hf k
  unfold fSorted at hf
  split at hf
  · rename_i xs
    cases q : intsOf xs with
    | none => rw [q] at hf; cases hf
    | some ns =>
      rw [q] at hf; cases hf
      obtain ⟨a, rfl, ha⟩ := ints_arg e r q
      refine ⟨a, ns, rfl, ha, fun ms p pm so hp => ?_⟩
      have e1 : ms = sortI ns := sorted_unique (pm.trans (sortI_perm ns).symm) so (sortI_sorted ns)
      rw [e1]
      exact k _ Z _ (.loose e hp _) ⟨p, _, rfl, hp, none_of_same e hp, upd_same, .ints _⟩
  · cases hf
end
/-! ### texts -/
def fJoin : D → List D → Option Rs
  | .str a, [.list xs] => match strsOf xs with
    | some ys => if (ys.map (·.length)).sum + ys.length * a.length ≤ 16000000 then some (.pu (.str (Txt.join a ys))) else none
    | none => none
  | .str a, [.tuple xs] => match strsOf xs with
    | some ys => if (ys.map (·.length)).sum + ys.length * a.length ≤ 16000000 then some (.pu (.str (Txt.join a ys))) else none
    | none => none
  | _, _ => none
def fSplit : D → List D → Option Rs
  | .str a, [.str b] => if (b.length == 0) = false ∧ a.length + 2 ≤ 16000000 then some (.nw (.li ((Txt.split a b).map PyData.str))) else none
  | _, _ => none
section
variable {K : PySem.W.Frag}
theorem metS_join : MetS K (fun x xs H Q => ∃ a p, ∃ ys : List Str, x = .str a ∧ xs = [.ref p] ∧ (SqL K H p (ys.map V.str) ∨ SqT K H p (ys.map V.str)) ∧
    (ys.map (·.length)).sum + ys.length * a.length ≤ 16777216 ∧ Q (.str (Txt.join a ys)) H) fJoin := by
  intro x d vs ds R Z H Q e rx r hf k
  unfold fJoin at hf
  split at hf
  · rename_i a xs
    split at hf
    · rename_i ys hy
      split at hf
      · cases hf
        obtain ⟨v, rfl, r1⟩ := Paired.one r
        obtain ⟨b, ws, rfl, hb, rb⟩ := r1.list e
        rw [strsOf_eq hy] at rb
        rw [rb.of_strs] at hb
        exact ⟨a, b, ys, rx.str, rfl, .inl (SqL.of hb), by omega, k _ Z H (.refl e) (.str _)⟩
      · cases hf
    · cases hf
  · rename_i a xs
    split at hf
    · rename_i ys hy
      split at hf
      · cases hf
        obtain ⟨v, rfl, r1⟩ := Paired.one r
        obtain ⟨b, ws, rfl, hb, rb, _⟩ := r1.tup e
        rw [strsOf_eq hy] at rb
        rw [rb.of_strs] at hb
        exact ⟨a, b, ys, rx.str, rfl, .inr (SqT.of hb), by omega, k _ Z H (.refl e) (.str _)⟩
      · cases hf
    · cases hf
  · cases hf
theorem metS_split : MetS K (fun x xs H Q => ∃ a b, x = .str a ∧ xs = [.str b] ∧ (b.length == 0) = false ∧ a.length + 2 ≤ sizeLine ∧ rNewStrs (Txt.split a b) H Q) fSplit := by
  intro x d vs ds R Z H Q e rx r hf k
  unfold fSplit at hf
  split at hf
  · rename_i a b
    split at hf
    · rename_i h
      cases hf
      obtain ⟨v, rfl, r1⟩ := Paired.one r
      rw [rx.str, r1.str]
      exact ⟨a, b, rfl, rfl, h.1, lim_le h.2, fun p hp => k _ Z _ (.loose e hp _) ⟨p, _, rfl, hp, none_of_same e hp, upd_same, .strs _⟩⟩
    · cases hf
  · cases hf
end
end Ow
namespace Ow
open PySem L2
/-! ### statements -/
inductive Mo where
  | st
  | nx (ρ : Rho)
  | rt (r : Rs) (ρ : Rho)
  | bk (ρ : Rho)
  | ct (ρ : Rho)
  | ex (x : Xn) (ρ : Rho)
abbrev Os := Rho → Mo
def M.bindS {α : Type} (m : M α) (f : α → Rho → Mo) : Mo := match m with
  | .st => .st
  | .ok a ρ => f a ρ
  | .ex x ρ => .ex x ρ
@[simp] theorem M.bindS_ok {α : Type} (a : α) (ρ : Rho) (f : α → Rho → Mo) : (M.ok a ρ).bindS f = f a ρ := rfl
@[simp] theorem M.bindS_st {α : Type} (f : α → Rho → Mo) : (M.st : M α).bindS f = .st := rfl
@[simp] theorem M.bindS_ex {α : Type} (x : Xn) (ρ : Rho) (f : α → Rho → Mo) : (M.ex x ρ : M α).bindS f = .ex x ρ := rfl
def Mo.then (m : Mo) (f : Os) : Mo := match m with
  | .nx ρ => f ρ
  | m => m
@[simp] theorem Mo.then_nx (ρ : Rho) (f : Os) : (Mo.nx ρ).then f = f ρ := rfl
@[simp] theorem Mo.then_st (f : Os) : (Mo.st).then f = .st := rfl
@[simp] theorem Mo.then_rt (r : Rs) (ρ : Rho) (f : Os) : (Mo.rt r ρ).then f = .rt r ρ := rfl
@[simp] theorem Mo.then_bk (ρ : Rho) (f : Os) : (Mo.bk ρ).then f = .bk ρ := rfl
@[simp] theorem Mo.then_ct (ρ : Rho) (f : Os) : (Mo.ct ρ).then f = .ct ρ := rfl
@[simp] theorem Mo.then_ex (x : Xn) (ρ : Rho) (f : Os) : (Mo.ex x ρ).then f = .ex x ρ := rfl
section
variable (K : PySem.W.Frag) (G : Gm) (B : Wish)
def PostS (Z : Hp) (m : Mo) (D : Ends) : Prop := match m with
  | .st => False
  | .nx ρ => ∀ σ Z' H', Same Z Z' → Sim K G Z' ρ σ H' → D.nx σ H'
  | .bk ρ => ∀ σ Z' H', Same Z Z' → Sim K G Z' ρ σ H' → D.bk σ H'
  | .ct ρ => ∀ σ Z' H', Same Z Z' → Sim K G Z' ρ σ H' → D.ct σ H'
  | .rt r ρ => ∀ v σ Z' H', Same Z Z' → Sim K G Z' ρ σ H' → RsR K G Z' ρ σ H' v r → D.rt v H'
  | .ex x ρ => ∀ σ Z' H', Same Z Z' → Sim K G Z' ρ σ H' → B x ρ Z' σ H'
def RunS (o : Os) : TS := fun D σ H => ∃ Z ρ, Sim K G Z ρ σ H ∧ PostS K G B Z (o ρ) D
end
def SD (X : Cx) (G : Gm) (B : Wish) (st : Stmt) (o : Os) : Prop := PS X st (RunS X.K G B o)
def BD (X : Cx) (G : Gm) (B : Wish) (st : List Stmt) (o : Os) : Prop := PSs X st (RunS X.K G B o)
theorem PostS.mono {K : PySem.W.Frag} {G : Gm} {B : Wish} {Z Z1 : Hp} {m : Mo} {D : Ends} (h : PostS K G B Z m D) (e : Same Z Z1) : PostS K G B Z1 m D := by
  cases m with
  | st => exact h
  | nx ρ => exact fun σ Z' H' e' => h σ Z' H' (e.trans e')
  | bk ρ => exact fun σ Z' H' e' => h σ Z' H' (e.trans e')
  | ct ρ => exact fun σ Z' H' e' => h σ Z' H' (e.trans e')
  | rt r ρ => exact fun v σ Z' H' e' => h v σ Z' H' (e.trans e')
  | ex x ρ => exact fun σ Z' H' e' => h σ Z' H' (e.trans e')
theorem PostS.bind {K : PySem.W.Frag} {G : Gm} {B : Wish} {α β : Type} {R : Rel α β} {σ : St} {Z : Hp} {m : M α} {f : α → Rho → Mo} {D : Ends} {C : β → Hp → Prop} (h : PostS K G B Z (m.bindS f) D)
    (k : ∀ x a ρ1 Z1 H1, Same Z Z1 → Sim K G Z1 ρ1 σ H1 → R Z1 ρ1 σ H1 x a → PostS K G B Z1 (f a ρ1) D → C x H1) : Post K G B R σ Z m C := by
  cases m with
  | st => exact h
  | ex x ρ => exact fun Z' H' e S => h σ Z' H' e S
  | ok a ρ1 =>
    intro v Z' H' e S r
    exact k v a ρ1 Z' H' e S r (PostS.mono (m := f a ρ1) h e)
theorem runS_bind {K : PySem.W.Frag} {G : Gm} {B : Wish} {α β : Type} {R : Rel α β} {σ : St} {H : Hp} {o : O α} {f : α → Rho → Mo} {D : Ends} {C : β → Hp → Prop} (h : RunS K G B (fun ρ => (o ρ).bindS f) D σ H)
    (k : ∀ x a ρ1 Z1 H1, Sim K G Z1 ρ1 σ H1 → R Z1 ρ1 σ H1 x a → PostS K G B Z1 (f a ρ1) D → C x H1) : Run K G B R o σ H C := by
  obtain ⟨Z, ρ, S, p⟩ := h
  exact ⟨Z, ρ, S, PostS.bind p fun x a ρ1 Z1 H1 _ S1 r p1 => k x a ρ1 Z1 H1 S1 r p1⟩
def oSeq (a b : Os) : Os := fun ρ => (a ρ).then b
def oNext : Os := fun ρ => .nx ρ
def oBreak : Os := fun ρ => .bk ρ
def oCont : Os := fun ρ => .ct ρ
def oDrop {α : Type} (o : O α) : Os := fun ρ => (o ρ).bindS fun _ ρ1 => .nx ρ1
def oRet (o : O Rs) : Os := fun ρ => (o ρ).bindS fun r ρ1 => .rt r ρ1
def oRetN : Os := fun ρ => .rt (.pu .none) ρ
def oRetV (i : Nat) : Os := fun ρ => match ρ[i]? with
  | some (.pu d) => .rt (.pu d) ρ
  | some (.ow false c) => .rt (.nw c) (ρ.set i .no)
  | _ => .st
def oIfS (c : O Bool) (a b : Os) : Os := fun ρ => (c ρ).bindS fun t ρ1 => if t = true then a ρ1 else b ρ1
section
variable {X : Cx} {G : Gm} {B : Wish} {st : Stmt} {rest : List Stmt} {a b : Os} {e c : Expr} {pos : Pos}
theorem seq_post {K : PySem.W.Frag} {Z : Hp} {m : Mo} {b : Os} {D : Ends} (h : PostS K G B Z (m.then b) D) : PostS K G B Z m { D with nx := fun σ H => RunS K G B b D σ H } := by
  cases m with
  | nx ρ => exact fun σ Z' H' e S => ⟨Z', ρ, S, PostS.mono (m := b ρ) h e⟩
  | st => exact h
  | bk ρ => exact h
  | ct ρ => exact h
  | rt r ρ => exact h
  | ex x ρ => exact h
theorem bd_nil : BD X G B [] oNext := pss_imp pss_nil fun D σ H ⟨Z, ρ, S, p⟩ => p σ Z H (.refl _) S
theorem bd_one (h : SD X G B st a) : BD X G B [st] a := pss_one h
theorem bd_cons (h : SD X G B st a) (h' : BD X G B rest b) : BD X G B (st :: rest) (oSeq a b) :=
  pss_imp (pss_cons h h') fun D σ H ⟨Z, ρ, S, p⟩ => ⟨Z, ρ, S, seq_post p⟩
theorem sd_pass : SD X G B (.Pass pos) oNext := ps_imp ps_pass fun D σ H ⟨Z, ρ, S, p⟩ => p σ Z H (.refl _) S
theorem sd_break : SD X G B (.Break pos) oBreak := ps_imp ps_break fun D σ H ⟨Z, ρ, S, p⟩ => p σ Z H (.refl _) S
theorem sd_continue : SD X G B (.Continue pos) oCont := ps_imp ps_continue fun D σ H ⟨Z, ρ, S, p⟩ => p σ Z H (.refl _) S
theorem sd_expr {o : O Va} (h : ED X G B e o) (hs : swapsWith e none pos.line X.env = pure false := by rfl) : SD X G B (.Expr e pos) (oDrop o) :=
  ps_imp (ps_expr h hs) fun D σ H w => runS_bind w fun x r ρ1 Z1 H1 S1 q p1 => p1 σ Z1 H1 (.refl _) S1
theorem sd_exprR {o : O Rs} (h : RD X G B e o) (hs : swapsWith e none pos.line X.env = pure false := by rfl) : SD X G B (.Expr e pos) (oDrop o) :=
  ps_imp (ps_expr h hs) fun D σ H w => runS_bind w fun x r ρ1 Z1 H1 S1 q p1 => p1 σ Z1 H1 (.refl _) S1
theorem sd_ret {o : O Rs} (h : RD X G B e o) : SD X G B (.Return (some e) pos) (oRet o) :=
  ps_imp (ps_ret h) fun D σ H w => runS_bind w fun x r ρ1 Z1 H1 S1 q p1 => p1 x σ Z1 H1 (.refl _) S1 q
theorem sd_retN : SD X G B (.Return none pos) oRetN := ps_imp ps_retN fun D σ H ⟨Z, ρ, S, p⟩ => p .non σ Z H (.refl _) S .non
theorem sd_if {o : O Bool} {as bs : List Stmt} (hc : TD X G B c o) (ha : BD X G B as a) (hb : BD X G B bs b) : SD X G B (.If c as bs pos) (oIfS o a b) :=
  ps_imp (ps_if hc ha hb) fun D σ H w => runS_bind w fun x k ρ1 Z1 H1 S1 q p1 => by
    have q : x = k := q
    subst q
    cases x with
    | true => exact ⟨Z1, ρ1, S1, p1⟩
    | false => exact ⟨Z1, ρ1, S1, p1⟩
theorem Sim.drop {K : PySem.W.Frag} {Z : Hp} {ρ : Rho} {σ : St} {H : Hp} (S : Sim K G Z ρ σ H) {i : Nat} {c : Ct} (h : ρ[i]? = some (Sl.ow false c)) : Sim K G Z (ρ.set i .no) σ H := by
  have hi : i < ρ.length := (List.getElem?_eq_some_iff.mp h).1
  have g : ∀ (j : Nat) s, (ρ.set i .no)[j]? = some s → s ≠ .no → j ≠ i ∧ ρ[j]? = some s := fun j s e n => by
    by_cases hj : j = i
    · subst hj; rw [List.getElem?_set_self hi] at e; cases e; exact absurd rfl n
    · rw [List.getElem?_set_ne (Ne.symm hj)] at e; exact ⟨hj, e⟩
  refine ⟨S.zz, S.zh, S.fr, S.nw, fun j d e => S.pu j d (g j _ e (by simp)).2, fun j p c e => S.ow j p c (g j _ e (by simp)).2, fun j k p q c d n e1 e2 => S.ne j k p q c d n (g j _ e1 (by simp)).2 (g k _ e2 (by simp)).2, fun j x hj => ?_, by rw [List.length_set]; exact S.len⟩
  obtain ⟨q, c', hc'⟩ := S.pin j x hj
  refine ⟨q, c', ?_⟩
  rw [List.getElem?_set_ne]
  · exact hc'
  · intro e; subst e; rw [h] at hc'; cases hc'
theorem sd_retV (i : Nat) {x : Str} {p : Pos} (hN : X.N[i]? = some x := by rfl) (hv : Vis X.env.scope x := by first | exact Or.inl rfl | exact Or.inr (Or.inl rfl) | exact Or.inr (Or.inr rfl)) (hd : (x == ("__debug__" : Str)) = false := by decide)
    (hcd : (x == ("__classdict__" : Str)) = false := by decide) : SD X G B (.Return (some (.Name x p)) pos) (oRetV i) := by
  refine ps_imp (ps_ret (pe_var (i := i) hN hv hd hcd)) ?_
  rintro D σ H ⟨Z, ρ, S, p⟩
  unfold oRetV at p
  split at p
  · rename_i d h
    obtain ⟨v, q, r⟩ := S.pu i d h
    exact ⟨v, q, p v σ Z H (.refl _) S r⟩
  · rename_i c h
    obtain ⟨a, o, q, ho, r, z, _, n⟩ := S.ow i _ c h
    refine ⟨_, q, p _ σ Z H (.refl _) (S.drop h) ⟨a, o, rfl, ho, r, z, n rfl, fun j b c' hj q' => ?_⟩⟩
    have hi : i < ρ.length := (List.getElem?_eq_some_iff.mp h).1
    by_cases hj' : j = i
    · subst hj'; rw [List.getElem?_set_self hi] at hj; cases hj
    · rw [List.getElem?_set_ne (Ne.symm hj')] at hj
      exact S.ne j i _ _ _ _ hj' hj h (q'.trans q.symm)
  · exact p.elim
end
/-! ### stores to names -/
def setSl (ρ : Rho) (i : Nat) (s : Sl) : Option Rho := match ρ[i]? with
  | some (.ow true _) => none
  | some _ => some (ρ.set i s)
  | none => none
section
variable {K : PySem.W.Frag} {G : Gm} {Z : Hp} {ρ ρ' : Rho} {σ : St} {H : Hp} {i : Nat} {v : V}
theorem Sim.put (S : Sim K G Z ρ σ H) {s : Sl} (h : setSl ρ i s = some ρ') (hs : match s with
      | .no => True
      | .pu d => Rp K Z v d
      | .ow p c => p = false ∧ ∃ a o, v = V.ref a ∧ H a = some o ∧ CtR K Z o c ∧ Z a = none ∧ G.H0 a = none ∧ ∀ (i : Nat) p c, ρ[i]? = some (Sl.ow p c) → σ[i]? ≠ some (some (V.ref a))) : Sim K G Z ρ' (σ.set i (some v)) H := by
  unfold setSl at h
  split at h
  · cases h
  · rename_i s0 hp h0
    cases h
    have hi : i < ρ.length := (List.getElem?_eq_some_iff.mp h0).1
    have hi' : i < σ.length := by rw [← S.len]; exact hi
    have nop : ∀ c, ρ[i]? ≠ some (Sl.ow true c) := fun c e => by rw [h0] at e; cases e; exact hp c rfl
    have g : ∀ (j : Nat) t, (ρ.set i s)[j]? = some t → (j = i ∧ t = s) ∨ (j ≠ i ∧ ρ[j]? = some t) := fun j t e => by
      by_cases hj : j = i
      · subst hj; rw [List.getElem?_set_self hi] at e; cases e; exact .inl ⟨rfl, rfl⟩
      · rw [List.getElem?_set_ne (Ne.symm hj)] at e; exact .inr ⟨hj, e⟩
    have gs : ∀ j : Nat, j ≠ i → (σ.set i (some v))[j]? = σ[j]? := fun j hj => by rw [List.getElem?_set_ne (Ne.symm hj)]
    have gi : (σ.set i (some v))[i]? = some (some v) := List.getElem?_set_self hi'
    refine ⟨S.zz, S.zh, S.fr, S.nw, fun j d e => ?_, fun j p c e => ?_, fun j k p q c d n e1 e2 => ?_, fun j x hj => ?_, by rw [List.length_set, List.length_set]; exact S.len⟩
    · rcases g j _ e with ⟨rfl, rfl⟩ | ⟨hj, e⟩
      · exact ⟨v, gi, hs⟩
      · rw [gs j hj]; exact S.pu j d e
    · rcases g j _ e with ⟨rfl, rfl⟩ | ⟨hj, e⟩
      · obtain ⟨rfl, a, o, rfl, ho, r, z, n, _⟩ := hs
        exact ⟨a, o, gi, ho, r, z, (fun q => by cases q), fun _ => n⟩
      · rw [gs j hj]; exact S.ow j p c e
    · rcases g j _ e1 with ⟨rfl, rfl⟩ | ⟨hj, e1'⟩
      · rcases g k _ e2 with ⟨rfl, _⟩ | ⟨hk, e2'⟩
        · exact absurd rfl n
        · obtain ⟨_, a, o, rfl, _, _, _, _, nn⟩ := hs
          rw [gi, gs k hk]
          exact fun e => nn k q d e2' e.symm
      · rcases g k _ e2 with ⟨rfl, rfl⟩ | ⟨hk, e2'⟩
        · obtain ⟨_, a, o, rfl, _, _, _, _, nn⟩ := hs
          rw [gi, gs j hj]
          exact nn j p c e1'
        · rw [gs j hj, gs k hk]
          exact S.ne j k p q c d n e1' e2'
    · obtain ⟨q, c, hc⟩ := S.pin j x hj
      have hj' : j ≠ i := fun e => by subst e; exact nop c hc
      refine ⟨by rw [gs j hj']; exact q, c, ?_⟩
      rw [List.getElem?_set_ne (Ne.symm hj')]
      exact hc
  · cases h
end
def Rs.sl : Rs → Sl
  | .pu d => .pu d
  | .nw c => .ow false c
@[simp] theorem Rs.sl_pu (d : D) : (Rs.pu d).sl = .pu d := rfl
@[simp] theorem Rs.sl_nw (c : Ct) : (Rs.nw c).sl = .ow false c := rfl
def nx1 (o : Option Rho) : Mo := match o with
  | some ρ => .nx ρ
  | none => .st
@[simp] theorem nx1_some (ρ : Rho) : nx1 (some ρ) = .nx ρ := rfl
def oSet (i : Nat) (o : O Rs) : Os := fun ρ => (o ρ).bindS fun r ρ1 => nx1 (setSl ρ1 i r.sl)
section
variable {X : Cx} {G : Gm} {B : Wish} {e c : Expr} {pos pos' : Pos}
theorem put_res {K : PySem.W.Frag} {Z : Hp} {ρ ρ' : Rho} {σ : St} {H : Hp} {i : Nat} {v : V} {r : Rs} (S : Sim K G Z ρ σ H) (h : setSl ρ i r.sl = some ρ') (hr : RsR K G Z ρ σ H v r) : Sim K G Z ρ' (σ.set i (some v)) H := by
  refine S.put h ?_
  cases r with
  | pu d => exact hr
  | nw c =>
    obtain ⟨a, o, h1, h2, h3, h4, h5, h6⟩ := hr
    exact ⟨rfl, a, o, h1, h2, h3, h4, h5, h6⟩
theorem asg_name {K : PySem.W.Frag} {i : Nat} {o : O Rs} {D : Ends} {σ : St} {H : Hp} (w : RunS K G B (oSet i o) D σ H) : tAsg (Run K G B (RsR K G) o) (gName i) D σ H :=
  runS_bind (C := fun x H1 => D.nx (σ.set i (some x)) H1) w fun x r ρ1 Z1 H1 S1 q p1 => by
    cases h : setSl ρ1 i r.sl with
    | none => rw [h] at p1; exact p1.elim
    | some ρ' => rw [h] at p1; exact p1 _ Z1 H1 (.refl _) (put_res S1 h q)
theorem sd_set (i : Nat) {x : Str} {o : O Rs} (he : RD X G B e o) (hN : X.N.Nodup) (hi : X.N[i]? = some x := by rfl) (hx : Loc X.env.scope x := by first | exact Or.inl rfl | exact Or.inr rfl) (hs : swapsWith e (some (.Name x pos')) pos.line X.env = pure false := by rfl)
    (hf : X.fn x = true ∨ X.env.scope.names.lookup x = some .local := by first | exact .inl rfl | exact .inr rfl | assumption) : SD X G B (.Assign [.Name x pos'] e pos) (oSet i o) :=
  ps_imp (ps_set hN hi hx he hs hf) fun D σ H w => asg_name w
end
/-! ### targets -/
/-- a target that is given still data -/
def gRun (K : PySem.W.Frag) (G : Gm) (T : List Nat) (g : D → Rho → Option Rho) : TG := fun v σ H Q => ∃ Z ρ d ρ', Sim K G Z ρ σ H ∧ Rp K Z v d ∧ g d ρ = some ρ' ∧ ∀ σ' Z' H', σ'.length = σ.length → (∀ j : Nat, j ∉ T → σ'[j]? = σ[j]?) → Same Z Z' → Sim K G Z' ρ' σ' H' → Q σ' H'
def gsRun (K : PySem.W.Frag) (G : Gm) (T : List Nat) (g : List D → Rho → Option Rho) : TGs := fun vs σ H Q => ∃ Z ρ ds ρ', Sim K G Z ρ σ H ∧ RpAll K Z vs ds ∧ g ds ρ = some ρ' ∧ ∀ σ' Z' H', σ'.length = σ.length → (∀ j : Nat, j ∉ T → σ'[j]? = σ[j]?) → Same Z Z' → Sim K G Z' ρ' σ' H' → Q σ' H'
def GD (X : Cx) (G : Gm) (tg : Expr) (T : List Nat) (g : D → Rho → Option Rho) : Prop := PG X tg (gRun X.K G T g)
def GDs (X : Cx) (G : Gm) (tg : List Expr) (T : List Nat) (g : List D → Rho → Option Rho) : Prop := PGs X tg (gsRun X.K G T g)
def gNm (i : Nat) : D → Rho → Option Rho := fun d ρ => setSl ρ i (.pu d)
def gNl : List D → Rho → Option Rho := fun ds ρ => match ds with
  | [] => some ρ
  | _ => none
def gCn (g : D → Rho → Option Rho) (gs : List D → Rho → Option Rho) : List D → Rho → Option Rho := fun ds ρ => match ds with
  | d :: r => (g d ρ).bind (gs r)
  | [] => none
def gTp (n : Nat) (gs : List D → Rho → Option Rho) : D → Rho → Option Rho := fun d ρ => match d with
  | .tuple ds => if ds.length = n then gs ds ρ else none
  | .dict [(.bool true, .tuple ds)] => if ds.length = n then gs ds ρ else none
  | _ => none
section
variable {X : Cx} {G : Gm} {B : Wish} {e tg : Expr} {es : List Expr} {pos pos' : Pos}
theorem pg_imp {tg : Expr} {t t' : TG} (h : PG X tg t) (k : ∀ v σ H Q, t' v σ H Q → t v σ H Q) : PG X tg t' := ⟨fun pins s σ H v u Q I r w => h.run pins s σ H v u Q I r (k _ _ _ _ w)⟩
theorem pgs_imp {tg : List Expr} {t t' : TGs} (h : PGs X tg t) (k : ∀ v σ H Q, t' v σ H Q → t v σ H Q) : PGs X tg t' := ⟨fun pins s σ H v u Q I r w => h.run pins s σ H v u Q I r (k _ _ _ _ w)⟩
theorem gd_name (i : Nat) {x : Str} (hN : X.N.Nodup) (hi : X.N[i]? = some x := by rfl) (hx : Loc X.env.scope x := by first | exact Or.inl rfl | exact Or.inr rfl) (hf : X.fn x = true ∨ X.env.scope.names.lookup x = some .local := by first | exact .inl rfl | exact .inr rfl | assumption) :
    GD X G (.Name x pos) [i] (gNm i) := pg_imp (pg_name hN hi hx hf) fun v σ H Q ⟨Z, ρ, d, ρ', S, r, h, k⟩ => k _ Z H List.length_set (fun j hj => by rw [List.getElem?_set_ne]; intro e; exact hj (by simp [e])) (.refl _) (S.put h r)
theorem gds_nil : GDs X G [] [] gNl := pgs_imp pgs_nil fun v σ H Q ⟨Z, ρ, d, ρ', S, r, h, k⟩ => by
  unfold gNl at h
  split at h
  · cases h; cases r; exact ⟨rfl, k σ Z H rfl (fun _ _ => rfl) (.refl _) S⟩
  · cases h
theorem gds_cons {T T' : List Nat} {g : D → Rho → Option Rho} {gs : List D → Rho → Option Rho} (h1 : GD X G e T g) (h2 : GDs X G es T' gs)
    (hs : (assignEach (e :: es) X.env).map (·.2) = assign e X.env :: (assignEach es X.env).map (·.2) := by rfl) : GDs X G (e :: es) (T ++ T') (gCn g gs) :=
  pgs_imp (pgs_cons h1 h2 hs) fun v σ H Q ⟨Z, ρ, d, ρ', S, r, h, k⟩ => by
    unfold gCn at h
    split at h
    · rename_i d ds
      cases r with
      | cons r1 r2 =>
        cases q : g d ρ with
        | none => rw [q] at h; cases h
        | some ρ1 =>
          rw [q] at h
          exact ⟨_, _, rfl, Z, ρ, d, ρ1, S, r1, q, fun σ1 Z1 H1 l1 j1 e1 S1 => ⟨Z1, ρ1, ds, ρ', S1, r2.mono e1, h, fun σ2 Z2 H2 l2 j2 e2 => k σ2 Z2 H2 (l2.trans l1) (fun j hj => (j2 j fun q => hj (List.mem_append_right _ q)).trans (j1 j fun q => hj (List.mem_append_left _ q))) (e1.trans e2)⟩⟩
    · cases h
theorem gd_tup {T : List Nat} {k n : Nat} {gs : List D → Rho → Option Rho} (hc : X.calm = true) (h : GDs X G es T gs)
    (hn : (assignEach es X.env).length = n := by rfl) (hst : (assignEach es X.env).findIdx? (·.1) = none := by rfl) : GD X G (.Tuple es k pos) T (gTp n gs) :=
  pg_imp (pg_tup hc h hn hst) fun v σ H Q ⟨Z, ρ, d, ρ', S, r, h, k⟩ => by
    unfold gTp at h
    split at h
    · split at h
      · rename_i hl
        cases r with
        | tup r1 r2 => exact ⟨_, _, rfl, SqT.of (S.zh _ _ r1), by rw [r2.length]; exact hl, Z, ρ, _, ρ', S, r2, h, k⟩
      · cases h
    · split at h
      · rename_i hl
        cases r with
        | kon r1 r2 => exact ⟨_, _, rfl, sqT_mono S.zh r1, by rw [r2.length]; exact hl, Z, ρ, _, ρ', S, r2, h, k⟩
      · cases h
    · cases h
def oAsg (o : O D) (g : D → Rho → Option Rho) : Os := fun ρ => (o ρ).bindS fun d ρ1 => nx1 (g d ρ1)
theorem sd_asg {T : List Nat} {o : O D} {g : D → Rho → Option Rho} (he : PD X G B e o) (hg : GD X G tg T g) (hs : swapsWithSole [tg] e pos.line X.env = pure false := by rfl) (hw : swappedStores [tg] e X.env = pure none := by rfl)
    (h1 : (assignEach [tg] X.env).map (·.2) = [assign tg X.env] := by rfl) : SD X G B (.Assign [tg] e pos) (oAsg o g) :=
  ps_imp (ps_asg he hg hs hw h1) fun D σ H w => runS_bind (C := fun x H1 => gRun X.K G T g x σ H1 D.nx) w fun x d ρ1 Z1 H1 S1 q p1 => by
    cases h : g d ρ1 with
    | none => rw [h] at p1; exact p1.elim
    | some ρ' => rw [h] at p1; exact ⟨Z1, ρ1, d, ρ', S1, q, h, fun σ' Z' H' _ _ => p1 σ' Z' H'⟩
end
end Ow
namespace Ow
open PySem L2
/-! ### changes to what a slot owns -/
section
variable {K : PySem.W.Frag} {G : Gm} {Z : Hp} {ρ ρ' : Rho} {σ : St} {H : Hp} {i : Nat} {v : V}
theorem Sim.write (S : Sim K G Z ρ σ H) {p : Bool} {c c' : Ct} {a : Addr} {o' : HO} (h : ρ[i]? = some (Sl.ow p c)) (ha : σ[i]? = some (some (V.ref a))) (hc : CtR K Z o' c') : Sim K G Z (ρ.set i (.ow p c')) σ (upd H a o') := by
  obtain ⟨a', o, q, ho, r, z, l, n⟩ := S.ow i p c h
  rw [ha] at q
  cases q
  have hi : i < ρ.length := (List.getElem?_eq_some_iff.mp h).1
  have g : ∀ (j : Nat) t, (ρ.set i (.ow p c'))[j]? = some t → (j = i ∧ t = .ow p c') ∨ (j ≠ i ∧ ρ[j]? = some t) := fun j t e => by
    by_cases hj : j = i
    · subst hj; rw [List.getElem?_set_self hi] at e; cases e; exact .inl ⟨rfl, rfl⟩
    · rw [List.getElem?_set_ne (Ne.symm hj)] at e; exact .inr ⟨hj, e⟩
  refine ⟨S.zz, fun b u e => ?_, fun b u e nl => ?_, S.nw, fun j d e => ?_, fun j q d e => ?_, fun j k q q' c1 d n1 e1 e2 => ?_, fun j x hj => ?_, by rw [List.length_set]; exact S.len⟩
  · rw [upd_ne (ne_of_none e z)]; exact S.zh _ _ e
  · have hb : b ≠ a := fun e' => by
      subst e'
      cases p with
      | true => exact nl (l rfl)
      | false => rw [n rfl] at e; cases e
    rw [upd_ne hb]; exact S.fr b u e nl
  · rcases g j _ e with ⟨rfl, e'⟩ | ⟨hj, e⟩
    · cases e'
    · exact S.pu j d e
  · rcases g j _ e with ⟨rfl, e'⟩ | ⟨hj, e⟩
    · cases e'; exact ⟨a, o', ha, upd_same, hc, z, l, n⟩
    · obtain ⟨b, u, q1, hu, r1, z1, l1⟩ := S.ow j q d e
      have hb : b ≠ a := fun e' => by subst e'; exact S.ne j i _ _ _ _ hj e h (q1.trans ha.symm)
      exact ⟨b, u, q1, by rw [upd_ne hb]; exact hu, r1, z1, l1⟩
  · rcases g j _ e1 with ⟨rfl, e1'⟩ | ⟨hj, e1'⟩
    · rcases g k _ e2 with ⟨rfl, e2'⟩ | ⟨hk, e2'⟩
      · exact absurd rfl n1
      · exact S.ne j k _ _ _ _ n1 h e2'
    · rcases g k _ e2 with ⟨rfl, e2'⟩ | ⟨hk, e2'⟩
      · exact S.ne j k _ _ _ _ n1 e1' h
      · exact S.ne j k _ _ _ _ n1 e1' e2'
  · obtain ⟨q, c1, hc1⟩ := S.pin j x hj
    refine ⟨q, ?_⟩
    by_cases hj' : j = i
    · subst hj'
      rw [h] at hc1
      cases hc1
      exact ⟨c', List.getElem?_set_self hi⟩
    · exact ⟨c1, by rw [List.getElem?_set_ne (Ne.symm hj')]; exact hc1⟩
end
/-- a method that changes its list or dict: new content, answer -/
def MutS (K : PySem.W.Frag) (r : V → List V → Hp → VK → Prop) (f : Ct → List D → Option (Ct × D)) : Prop := ∀ (a : Addr) (o : HO) (c : Ct) (vs : List V) (ds : List D) (c' : Ct) (d : D) (Z H : Hp) (Q : VK), Same Z H → H a = some o → CtR K Z o c →
  Paired (Rdb K Z H) vs ds → f c ds = some (c', d) → (∀ v o', CtR K Z o' c' → Rp K Z v d → Q v (upd H a o')) → r (.ref a) vs H Q
def mut1 (i : Nat) (f : Ct → List D → Option (Ct × D)) (as : List Va) (ρ : Rho) : M D := match ρ[i]?, rdVs ρ as with
  | some (.ow p c), some ds => match f c ds with
    | some (c', d) => .ok d (ρ.set i (.ow p c'))
    | none => .st
  | _, _ => .st
def oMut (i : Nat) (f : Ct → List D → Option (Ct × D)) (oas : O (List Va)) : O D := fun ρ => match ρ[i]? with
  | some (.ow _ (.li _)) => (oas ρ).bind (mut1 i f)
  | _ => .st
section
variable {X : Cx} {G : Gm} {B : Wish} {name x : Str} {apos cpos npos : Pos} {e o : Expr} {es : List Expr} {id : String} {r : V → List V → Hp → VK → Prop} {f : Ct → List D → Option (Ct × D)} {oas : O (List Va)}
theorem mut1_run {K : PySem.W.Frag} (hf : MutS K r f) {i : Nat} {σ : St} {Z H : Hp} {ρ : Rho} {v : V} {vs : List V} {as : List Va} {Q : VK} (S : Sim K G Z ρ σ H) (q : σ[i]? = some (some v)) (rv : VasR K Z ρ σ H vs as)
    (p : Post K G B (PuR K) σ Z (mut1 i f as ρ) Q) : r v vs H Q := by
  unfold mut1 at p
  split at p
  · rename_i pn c ds h hd
    split at p
    · rename_i c' d hc
      obtain ⟨a, o, q', ho, r1, z, _⟩ := S.ow i _ _ h
      rw [q] at q'
      cases q'
      exact hf a o c vs ds c' d Z H Q S.zh ho r1 (S.rdbs rv hd) hc fun w o' hc' rw => p w Z _ (.refl _) (S.write h q hc') rw
    · exact p.elim
  · exact p.elim
theorem pd_mut (i : Nat) (slot : Slot "list" name id) (hty : typeOf (.builtin id) = pure (.type "method_descriptor")) (hm : MtR X id r) (hf : MutS X.K r f) (ha : AD X G B (e :: es) oas)
    (hN : X.N[i]? = some x := by rfl) (hv : Vis X.env.scope x := by first | exact Or.inl rfl | exact Or.inr (Or.inl rfl) | exact Or.inr (Or.inr rfl)) (hd : (x == ("__debug__" : Str)) = false := by decide)
    (hcd : (x == ("__classdict__" : Str)) = false := by decide)
    (hbase : attributeBase (.Name x npos) name X.env (eval (.Name x npos) X.env) = eval (.Name x npos) X.env := by rfl)
    (hfew : ((backTo cpos (starEach (e :: es) X.env)).all (fun x => !x.1) && (backToKw cpos (keywordEach [] X.env)).all (fun x => x.1.isSome)
      && decide ((e :: es).length + ([] : List Keyword).length + (if ([] : List Keyword).isEmpty then 0 else 1) < 30)) = true := by rfl)
    (hline : (apos.endLine == cpos.line) = true := by rfl) (hs : starEach (e :: es) X.env = (false, eval e X.env) :: starEach es X.env := by rfl) (hplain : (backTo cpos (starEach es X.env)).any (·.1) = false := by rfl) :
    PD X G B (.Call (.Attribute (.Name x npos) name apos) (e :: es) [] cpos) (oMut i f oas) := by
  refine pe_imp (pe_bm PySem.F.plainAttrs_list slot hty hm (pe_var (i := i) hN hv hd hcd) ha hbase hfew hline hs hplain) ?_
  rintro σ H Q ⟨Z, ρ, S, p⟩
  unfold oMut at p
  split at p
  · rename_i pn ds h
    obtain ⟨a, o, q, ho, r1, z, _⟩ := S.ow i _ _ h
    cases o with
    | lst vs => exact ⟨_, q, .inl ⟨rfl, vs, SqL.of ho⟩, Z, ρ, S, Post.bind p fun ws as ρ1 Z1 H1 e1 S1 r1 p1 => mut1_run hf S1 q r1 p1⟩
    | _ => exact r1.elim
  · exact p.elim
theorem pd_mut0 (i : Nat) (slot : Slot "list" name id) (hty : typeOf (.builtin id) = pure (.type "method_descriptor")) (hm : MtR X id r) (hf : MutS X.K r f)
    (hN : X.N[i]? = some x := by rfl) (hv : Vis X.env.scope x := by first | exact Or.inl rfl | exact Or.inr (Or.inl rfl) | exact Or.inr (Or.inr rfl)) (hd : (x == ("__debug__" : Str)) = false := by decide)
    (hcd : (x == ("__classdict__" : Str)) = false := by decide)
    (hbase : attributeBase (.Name x npos) name X.env (eval (.Name x npos) X.env) = eval (.Name x npos) X.env := by rfl) (hline : (apos.endLine == cpos.line) = true := by rfl) :
    PD X G B (.Call (.Attribute (.Name x npos) name apos) [] [] cpos) (oMut i f oNil) := by
  refine pe_imp (pe_bm0 PySem.F.plainAttrs_list slot hty hm (pe_var (i := i) hN hv hd hcd) hbase hline) ?_
  rintro σ H Q ⟨Z, ρ, S, p⟩
  unfold oMut at p
  split at p
  · rename_i pn ds h
    obtain ⟨a, o, q, ho, r1, z, _⟩ := S.ow i _ _ h
    cases o with
    | lst vs => exact ⟨_, q, .inl ⟨rfl, vs, SqL.of ho⟩, mut1_run hf S q .nil p⟩
    | _ => exact r1.elim
  · exact p.elim
/-- kept data as arguments -/
def oPus (o : O (List D)) : O (List Va) := fun ρ => (o ρ).bind fun ds ρ1 => .ok (ds.map Va.pu) ρ1
theorem vas_pus {K : PySem.W.Frag} {Z : Hp} {ρ : Rho} {σ : St} {H : Hp} : ∀ {vs : List V} {ds : List D}, RpAll K Z vs ds → VasR K Z ρ σ H vs (ds.map Va.pu)
  | _, [], h => by cases h; exact .nil
  | _, d :: ds, h => by
    cases h with
    | cons h1 h2 => exact .cons h1 (vas_pus h2)
theorem ad_qd {es : List Expr} {o : O (List D)} (h : QD X G B es o) : AD X G B es (oPus o) := pa_imp h fun σ H Q w => run_imp w fun x ds ρ1 Z1 H1 S1 r1 p1 => p1 x Z1 H1 (.refl _) S1 (vas_pus r1)
end
def fAppend : Ct → List D → Option (Ct × D)
  | .li xs, [d] => if xs.length < 16000000 then some (.li (xs ++ [d]), .none) else none
  | _, _ => none
def fExtend : Ct → List D → Option (Ct × D)
  | .li xs, [.list ys] => if xs.length + ys.length ≤ 16000000 then some (.li (xs ++ ys), .none) else none
  | _, _ => none
def fPop : Ct → List D → Option (Ct × D)
  | .li xs, [] => (xs[xs.length - 1]?).map fun d => (.li xs.dropLast, d)
  | _, _ => none
def fPopAt : Ct → List D → Option (Ct × D)
  | .li xs, [.int i] => if 0 ≤ i ∧ i.natAbs < 4611686018427387904 then (xs[i.toNat]?).map fun d => (.li (xs.eraseIdx i.toNat), d) else none
  | _, _ => none
def fInsert : Ct → List D → Option (Ct × D)
  | .li xs, [.int i, d] => if 0 ≤ i ∧ i.natAbs < 4611686018427387904 ∧ xs.length < 16000000 then some (.li (xs.take i.toNat ++ [d] ++ xs.drop i.toNat), .none) else none
  | _, _ => none
section
variable {K : PySem.W.Frag}
theorem Rdb.keptD {Z H : Hp} {v : V} {d : D} (h : Rdb K Z H v d) (n : ∀ ds, d ≠ .list ds) : Rp K Z v d := by
  rcases h with h | ⟨_, _, ds, _, e, _⟩
  · exact h
  · exact absurd e (n ds)
theorem mutS_extend : MutS K rExtend fExtend := by
  intro a o c vs ds c' d Z H Q e ho r rv hf k
  unfold fExtend at hf
  split at hf
  · split at hf
    · cases hf
      rename_i hz
      obtain ⟨v, rfl, r1⟩ := Paired.one rv
      obtain ⟨b, ws, rfl, hb, rb⟩ := r1.list e
      cases o with
      | lst us => exact ⟨a, b, us, ws, rfl, rfl, ho, hb, by rw [RpAll.length r, rb.length]; exact lim_le hz, k _ (.lst _) (RpAll.append r rb) .non⟩
      | _ => exact r.elim
    · cases hf
  · cases hf
theorem mutS_pop : MutS K rPop fPop := by
  intro a o c vs ds c' d Z H Q e ho r rv hf k
  unfold fPop at hf
  split at hf
  · rename_i xs
    cases q : xs[xs.length - 1]? with
    | none => rw [q] at hf; cases hf
    | some y =>
      rw [q] at hf
      cases hf
      cases rv
      cases o with
      | lst us =>
        obtain ⟨w, hw, rw'⟩ := RpAll.get r q
        exact ⟨a, us, w, rfl, rfl, ho, by rw [RpAll.length r]; exact hw, k _ (.lst _) (RpAll.dropLast r) rw'⟩
      | _ => exact r.elim
  · cases hf
theorem seqIndex_nat {i : Int} {n : Nat} (h0 : 0 ≤ i) (h1 : i.toNat < n) : seqIndex? i n = some i.toNat := by
  have q : ixN n i = some i.toNat := by unfold ixN; rw [if_pos h0, if_pos (by omega)]
  exact (ixN_seq q).1
theorem mutS_popAt : MutS K rPopAt fPopAt := by
  intro a o c vs ds c' d Z H Q e ho r rv hf k
  unfold fPopAt at hf
  split at hf
  · rename_i xs i
    split at hf
    · rename_i hi
      cases q : xs[i.toNat]? with
      | none => rw [q] at hf; cases hf
      | some y =>
        rw [q] at hf
        cases hf
        obtain ⟨v, rfl, r1⟩ := Paired.one rv
        rw [r1.int]
        cases o with
        | lst us =>
          obtain ⟨w, hw, rw'⟩ := RpAll.get r q
          have hl : i.toNat < us.length := (List.getElem?_eq_some_iff.mp hw).1
          exact ⟨a, us, i, i.toNat, w, rfl, rfl, ho, by omega, by omega, seqIndex_nat hi.1 hl, hw, k _ (.lst _) (RpAll.eraseIdx _ r) rw'⟩
        | _ => exact r.elim
    · cases hf
  · cases hf
end
/-- .. with kept arguments -/
def MutK (K : PySem.W.Frag) (r : V → List V → Hp → VK → Prop) (f : Ct → List D → Option (Ct × D)) : Prop := ∀ (a : Addr) (o : HO) (c : Ct) (vs : List V) (ds : List D) (c' : Ct) (d : D) (Z H : Hp) (Q : VK), Same Z H → H a = some o → CtR K Z o c →
  RpAll K Z vs ds → f c ds = some (c', d) → (∀ v o', CtR K Z o' c' → Rp K Z v d → Q v (upd H a o')) → r (.ref a) vs H Q
def mutK1 (i : Nat) (f : Ct → List D → Option (Ct × D)) (ds : List D) (ρ : Rho) : M D := match ρ[i]? with
  | some (.ow p c) => match f c ds with
    | some (c', d) => .ok d (ρ.set i (.ow p c'))
    | none => .st
  | _ => .st
def oMutK (i : Nat) (f : Ct → List D → Option (Ct × D)) (oas : O (List D)) : O D := fun ρ => match ρ[i]? with
  | some (.ow _ (.li _)) => (oas ρ).bind (mutK1 i f)
  | _ => .st
section
variable {X : Cx} {G : Gm} {B : Wish} {name x : Str} {apos cpos npos : Pos} {e o : Expr} {es : List Expr} {id : String} {r : V → List V → Hp → VK → Prop} {f : Ct → List D → Option (Ct × D)} {oas : O (List D)}
theorem mutK1_run {K : PySem.W.Frag} (hf : MutK K r f) {i : Nat} {σ : St} {Z H : Hp} {ρ : Rho} {v : V} {vs : List V} {ds : List D} {Q : VK} (S : Sim K G Z ρ σ H) (q : σ[i]? = some (some v)) (rv : RpAll K Z vs ds)
    (p : Post K G B (PuR K) σ Z (mutK1 i f ds ρ) Q) : r v vs H Q := by
  unfold mutK1 at p
  split at p
  · rename_i pn c h
    split at p
    · rename_i c' d hc
      obtain ⟨a, o, q', ho, r1, z, _⟩ := S.ow i _ _ h
      rw [q] at q'
      cases q'
      exact hf a o c vs ds c' d Z H Q S.zh ho r1 rv hc fun w o' hc' rw => p w Z _ (.refl _) (S.write h q hc') rw
    · exact p.elim
  · exact p.elim
theorem pd_mutK (i : Nat) (slot : Slot "list" name id) (hty : typeOf (.builtin id) = pure (.type "method_descriptor")) (hm : MtR X id r) (hf : MutK X.K r f) (ha : QD X G B (e :: es) oas)
    (hN : X.N[i]? = some x := by rfl) (hv : Vis X.env.scope x := by first | exact Or.inl rfl | exact Or.inr (Or.inl rfl) | exact Or.inr (Or.inr rfl)) (hd : (x == ("__debug__" : Str)) = false := by decide)
    (hcd : (x == ("__classdict__" : Str)) = false := by decide)
    (hbase : attributeBase (.Name x npos) name X.env (eval (.Name x npos) X.env) = eval (.Name x npos) X.env := by rfl)
    (hfew : ((backTo cpos (starEach (e :: es) X.env)).all (fun x => !x.1) && (backToKw cpos (keywordEach [] X.env)).all (fun x => x.1.isSome)
      && decide ((e :: es).length + ([] : List Keyword).length + (if ([] : List Keyword).isEmpty then 0 else 1) < 30)) = true := by rfl)
    (hline : (apos.endLine == cpos.line) = true := by rfl) (hs : starEach (e :: es) X.env = (false, eval e X.env) :: starEach es X.env := by rfl) (hplain : (backTo cpos (starEach es X.env)).any (·.1) = false := by rfl) :
    PD X G B (.Call (.Attribute (.Name x npos) name apos) (e :: es) [] cpos) (oMutK i f oas) := by
  refine pe_imp (pe_bm PySem.F.plainAttrs_list slot hty hm (pe_var (i := i) hN hv hd hcd) ha hbase hfew hline hs hplain) ?_
  rintro σ H Q ⟨Z, ρ, S, p⟩
  unfold oMutK at p
  split at p
  · rename_i pn ds h
    obtain ⟨a, o, q, ho, r1, z, _⟩ := S.ow i _ _ h
    cases o with
    | lst vs => exact ⟨_, q, .inl ⟨rfl, vs, SqL.of ho⟩, Z, ρ, S, Post.bind p fun ws as ρ1 Z1 H1 e1 S1 r1 p1 => mutK1_run hf S1 q r1 p1⟩
    | _ => exact r1.elim
  · exact p.elim
end
section
variable {K : PySem.W.Frag}
theorem mutK_append : MutK K rAppend fAppend := by
  intro a o c vs ds c' d Z H Q e ho r rv hf k
  unfold fAppend at hf
  split at hf
  · split at hf
    · cases hf
      rename_i hz
      cases rv with
      | cons r1 r2 =>
        cases r2
        cases o with
        | lst us => exact ⟨a, us, _, rfl, rfl, ho, by rw [RpAll.length r]; exact lim_lt hz, k _ (.lst _) (RpAll.append r (.one r1)) .non⟩
        | _ => exact r.elim
    · cases hf
  · cases hf
theorem mutK_insert : MutK K (fun x vs H Q => ∃ (l : Addr) (xs : List V) (i : Int) (y : V), x = .ref l ∧ vs = [.int i, y] ∧ H l = some (.lst xs) ∧ xs.length < sizeLine ∧ 0 ≤ i ∧ i < 2 ^ 63 ∧
    Q .non (upd H l (.lst (xs.take i.toNat ++ [y] ++ xs.drop i.toNat)))) fInsert := by
  intro a o c vs ds c' d Z H Q e ho r rv hf k
  unfold fInsert at hf
  split at hf
  · split at hf
    · cases hf
      rename_i hz
      cases rv with
      | cons r1 r2 =>
        cases r2 with
        | cons r2 r3 =>
          cases r3
          cases r1
          cases o with
          | lst us => exact ⟨a, us, _, _, rfl, rfl, ho, by rw [RpAll.length r]; exact lim_lt hz.2.2, hz.1, by omega, k _ (.lst _) (((RpAll.take _ r).append (.one r2)).append (RpAll.drop _ r)) .non⟩
          | _ => exact r.elim
    · cases hf
  · cases hf
end
end Ow
namespace Ow
open PySem L2
/-! ### x op= e -/
def fAddS : D → D → Option Rs
  | .str i, .str j => if i.length + j.length ≤ 16000000 then some (.pu (.str (i ++ j))) else none
  | _, _ => none
def fMulI : D → D → Option Rs
  | .int i, .int j => if mulOk i j = true then some (.pu (.int (i * j))) else none
  | _, _ => none
structure AugK (X : Cx) (op : Operator) (r : R2) (f : D → D → Option Rs) : Prop where
  o : PIp X op r
  s : BinS X.K r f
def aug1 (i : Nat) (f : D → D → Option Rs) (x : D) (b : Va) (ρ : Rho) : Mo := match rdV ρ b with
  | some dy => match f x dy with
    | some (.pu d) => nx1 (setSl ρ i (.pu d))
    | _ => .st
  | none => .st
def oAug (i : Nat) (f : D → D → Option Rs) (o : O Va) : Os := fun ρ => match ρ[i]? with
  | some (.pu x) => (o ρ).bindS (aug1 i f x)
  | _ => .st
section
variable {X : Cx} {G : Gm} {B : Wish} {e o ix : Expr} {pos pos' tpos npos : Pos} {op : Operator} {r : R2} {f : D → D → Option Rs} {x : Str}
theorem ak_add : AugK X .Add (rI0 fun i j => .int (i + j)) (fInt2 fun i j => i + j) := ⟨iop_add, binS_int⟩
theorem ak_addS : AugK X .Add (fun x y H Q => ∃ i j, x = .str i ∧ y = .str j ∧ i.length + j.length ≤ sizeLine ∧ Q (.str (i ++ j)) H) fAddS :=
  ⟨iop_add_str, by
    intro x y dx dy R Z H Q e rx ry hf k
    unfold fAddS at hf
    split at hf
    · split at hf
      · cases hf; exact ⟨_, _, rx.str, ry.str, lim_le ‹_›, k _ Z H (.refl e) (.str _)⟩
      · cases hf
    · cases hf⟩
theorem ak_sub : AugK X .Sub (rI0 fun i j => .int (i - j)) fSub := ⟨iop_sub, binS_int⟩
theorem ak_mul : AugK X .Mult (rI CMul fun i j => .int (i * j)) fMulI :=
  ⟨iop_mul, binS_intC fun a b R h => by
    unfold fMulI at h
    split at h
    · split at h
      · cases h; rename_i hd; exact ⟨_, _, rfl, rfl, mulOk_c hd, rfl⟩
      · cases h
    · cases h⟩
theorem ak_and : AugK X .BitAnd (rI0 fun i j => .int (Builtin.bitAnd i j)) fAnd := ⟨iop_and, binS_int⟩
theorem ak_or : AugK X .BitOr (rI0 fun i j => .int (Builtin.bitOr i j)) fOr := ⟨iop_or, binS_int⟩
theorem ak_xor : AugK X .BitXor (rI0 fun i j => .int (Builtin.bitXor i j)) fXor := ⟨iop_xor, binS_int⟩
theorem ak_shr : AugK X .RShift (rI (fun _ j => 0 ≤ j) fun i j => .int (i / 2 ^ j.toNat)) fShr := ⟨iop_shr, binS_shr⟩
theorem ak_shl : AugK X .LShift (rI CPow fun i j => .int (i * 2 ^ j.toNat)) fShl := ⟨iop_shl, binS_shl⟩
theorem sd_aug (i : Nat) {oe : O Va} (a : AugK X op r f) (he : ED X G B e oe) (hN : X.N.Nodup) (hi : X.N[i]? = some x := by rfl) (hx : Loc X.env.scope x := by first | exact Or.inl rfl | exact Or.inr rfl)
    (hf : X.fn x = true ∨ X.env.scope.names.lookup x = some .local := by first | exact .inl rfl | exact .inr rfl | assumption) : SD X G B (.AugAssign (.Name x pos') op e pos) (oAug i f oe) := by
  refine ps_imp (ps_aug hN hi hx he a.o hf) ?_
  rintro D σ H ⟨Z, ρ, S, p⟩
  unfold oAug at p
  split at p
  · rename_i d h
    obtain ⟨v, q, rv⟩ := S.pu i d h
    refine ⟨v, q, Z, ρ, S, PostS.bind p fun y b ρ1 Z1 H1 e1 S1 r1 p1 => ?_⟩
    unfold aug1 at p1
    split at p1
    · rename_i dy hy
      split at p1
      · rename_i dz hz
        refine a.s v y d dy _ Z1 H1 _ S1.zh (.inl (rv.mono e1)) (S1.rdb r1 hy) hz fun w Z' H' g rw => ?_
        cases h : setSl ρ1 i (.pu dz) with
        | none => rw [h] at p1; exact p1.elim
        | some ρ' => rw [h] at p1; exact p1 _ Z' H' g.z ((S1.grow g).put h rw)
      · exact p1.elim
    · exact p1.elim
  · exact p.elim
/-! ### xs[i] op= e, xs[i] = e -/
def rIxN (K : PySem.W.Frag) : R2 := fun x y H Q => ∃ p xs i v, x = .ref p ∧ y = .int i ∧ SqL K H p xs ∧ 0 ≤ i ∧ xs[i.toNat]? = some v ∧ Q v H
theorem get_list : PGet X (rIxN X.K) := by
  intro pins s σ H o i ov iv Q I ro ri h
  obtain ⟨p, xs, k, z, rfl, rfl, hq, h0, he, q⟩ := h
  cases ro
  obtain ⟨t, rfl⟩ := ri
  obtain ⟨its, r, pl, hz⟩ := I.list hq
  obtain ⟨u, hu, ru⟩ := r.get he
  have hl := r.length
  have h63 := line63
  have hk : k.toNat < xs.length := (List.getElem?_eq_some_iff.mp he).1
  exact wpAny_getItem_list pl.isList h0 (by omega) (by simpa using hu) ⟨z, H, I, ru, q⟩
end
/-- the place of a store -/
def stL (ds : List D) (i : D) (d : D) : Option Ct := match i with
  | .int j => (ixN ds.length j).map fun n => .li (ds.set n d)
  | _ => none
def stL1 (k : Nat) (d i : D) (ρ : Rho) : Mo := match ρ[k]? with
  | some (.ow p (.li ds)) => match stL ds i d with
    | some c => .nx (ρ.set k (.ow p c))
    | none => .st
  | _ => .st
def oStL (k : Nat) (ov oi : O D) : Os := fun ρ => (ov ρ).bindS fun d ρ1 => match ρ1[k]? with
  | some (.ow _ (.li _)) => (oi ρ1).bindS fun i ρ2 => stL1 k d i ρ2
  | _ => .st
/-- xs[i] op= e, for ints -/
def auL1 (k : Nat) (f : D → D → Option Rs) (j : Nat) (x : D) (d : D) (ρ : Rho) : Mo := match ρ[k]? with
  | some (.ow p (.li ds)) => match f x d with
    | some (.pu y) => if j < ds.length then .nx (ρ.set k (.ow p (.li (ds.set j y)))) else .st
    | _ => .st
  | _ => .st
def auL2 (k : Nat) (f : D → D → Option Rs) (oe : O D) (i : D) (ρ : Rho) : Mo := match ρ[k]?, i with
  | some (.ow _ (.li ds)), .int j => if 0 ≤ j then match ds[j.toNat]? with
    | some x => (oe ρ).bindS fun d ρ1 => auL1 k f j.toNat x d ρ1
    | none => .st
    else .st
  | _, _ => .st
def oAuL (k : Nat) (f : D → D → Option Rs) (oi oe : O D) : Os := fun ρ => match ρ[k]? with
  | some (.ow _ (.li _)) => (oi ρ).bindS (auL2 k f oe)
  | _ => .st
section
variable {X : Cx} {G : Gm} {B : Wish} {e o ix : Expr} {pos pos' tpos npos : Pos} {op : Operator} {r : R2} {f : D → D → Option Rs} {x : Str}
theorem sd_stL (k : Nat) {ov oi : O D} (hv : PD X G B e ov) (hi : PD X G B ix oi)
    (hN : X.N[k]? = some x := by rfl) (hvis : Vis X.env.scope x := by first | exact Or.inl rfl | exact Or.inr (Or.inl rfl) | exact Or.inr (Or.inr rfl)) (hd : (x == ("__debug__" : Str)) = false := by decide)
    (hcd : (x == ("__classdict__" : Str)) = false := by decide)
    (ha : ∀ v, assign (.Subscript (.Name x npos) ix pos') X.env v = (do
      let ov ← holding [v] (eval (.Name x npos) X.env)
      let iv ← holding [v, ov] (eval ix X.env)
      standAt pos'
      holding [v, ov, iv] (setItem ov iv v)
      release [v, ov, iv] []) := by intro _; rfl)
    (hs : swapsWithSole [.Subscript (.Name x npos) ix pos'] e pos.line X.env = pure false := by rfl) (hw : swappedStores [.Subscript (.Name x npos) ix pos'] e X.env = pure none := by rfl)
    (h1 : (assignEach [.Subscript (.Name x npos) ix pos'] X.env).map (·.2) = [assign (.Subscript (.Name x npos) ix pos') X.env] := by rfl) :
    SD X G B (.Assign [.Subscript (.Name x npos) ix pos'] e pos) (oStL k ov oi) :=
  ps_imp (ps_asg hv (pg_sub (pe_var (i := k) hN hvis hd hcd) hi set_list ha) hs hw h1) fun D σ H w => runS_bind (C := fun v H1 => gSub (tVar k) (Run X.K G B (PuR X.K) oi) rSetL v σ H1 D.nx) w fun v d ρ1 Z1 H1 S1 rv p1 => by
    split at p1
    · rename_i p ds h
      obtain ⟨a, ob, q, ho, r1, z, _⟩ := S1.ow k _ _ h
      refine ⟨_, q, Z1, ρ1, S1, PostS.bind p1 fun iv di ρ2 Z2 H2 e2 S2 r2 p2 => ?_⟩
      unfold stL1 at p2
      split at p2
      · rename_i p' ds' h'
        split at p2
        · rename_i c hc
          unfold stL at hc
          split at hc
          · rename_i j
            cases hj : ixN ds'.length j with
            | none => rw [hj] at hc; cases hc
            | some n =>
              rw [hj] at hc
              cases hc
              have q2 : Rp X.K Z2 iv (.int j) := r2
              cases q2
              obtain ⟨a2, o2, q2, ho2, r2', z2, _⟩ := S2.ow k _ _ h'
              rw [q] at q2
              cases q2
              cases o2 with
              | lst us => exact ⟨a, us, j, n, rfl, rfl, ho2, by rw [RpAll.length r2']; exact hj, p2 σ Z2 _ (.refl _) (S2.write h' q (RpAll.set (Rp.mono rv e2) n r2'))⟩
              | _ => exact r2'.elim
          · cases hc
        · exact p2.elim
      · exact p2.elim
    · exact p1.elim
theorem sd_auL (k : Nat) {oi oe : O D} (a : AugK X op r f) (hi : PD X G B ix oi) (he : PD X G B e oe)
    (hN : X.N[k]? = some x := by rfl) (hvis : Vis X.env.scope x := by first | exact Or.inl rfl | exact Or.inr (Or.inl rfl) | exact Or.inr (Or.inr rfl)) (hd : (x == ("__debug__" : Str)) = false := by decide)
    (hcd : (x == ("__classdict__" : Str)) = false := by decide)
    (ha : ∀ ov iv new, augStore ix ov iv new = (do holding [new, ov, iv] (setItem ov iv new); release [new, ov, iv] []; pure .next) := by intros; rfl) :
    SD X G B (.AugAssign (.Subscript (.Name x npos) ix tpos) op e pos) (oAuL k f oi oe) := by
  refine ps_imp (ps_augS (pe_var (i := k) hN hvis hd hcd) hi get_list he a.o set_list ha) ?_
  rintro D σ H ⟨Z, ρ, S, p⟩
  unfold oAuL at p
  split at p
  · rename_i pn ds h
    obtain ⟨b, ob, q, ho, r1, z, _⟩ := S.ow k _ _ h
    refine ⟨_, q, Z, ρ, S, PostS.bind p fun iv di ρ1 Z1 H1 e1 S1 r1 p1 => ?_⟩
    unfold auL2 at p1
    split at p1
    · rename_i p' ds' j h1
      split at p1
      · rename_i h0
        split at p1
        · rename_i xd hx
          obtain ⟨b1, o1, q1, ho1, r1', z1, _⟩ := S1.ow k _ _ h1
          rw [q] at q1
          cases q1
          have qi : Rp X.K Z1 iv (.int j) := r1
          cases qi
          cases o1 with
          | lst us =>
            obtain ⟨w, hw, rw'⟩ := RpAll.get r1' hx
            refine ⟨b, us, j, w, rfl, rfl, SqL.of ho1, h0, hw, Z1, ρ1, S1, PostS.bind p1 fun y d ρ2 Z2 H2 e2 S2 r2 p2 => ?_⟩
            unfold auL1 at p2
            split at p2
            · rename_i p2' ds2 h2
              split at p2
              · rename_i y' hy'
                split at p2
                · rename_i hj
                  refine a.s w y xd d _ Z2 H2 _ S2.zh (.inl (rw'.mono e2)) (.inl r2) hy' fun v Z' H' g rv => ?_
                  have S3 := S2.grow g
                  obtain ⟨b2, o2, q2, ho2, r2', z2, _⟩ := S3.ow k _ _ h2
                  rw [q] at q2
                  cases q2
                  cases o2 with
                  | lst us2 =>
                    have hl := RpAll.length r2'
                    refine ⟨b, us2, j, j.toNat, rfl, rfl, ho2, ?_, p2 σ Z' _ g.z (S3.write h2 q (RpAll.set rv _ r2'))⟩
                    unfold ixN
                    rw [if_pos h0, if_pos (by omega)]
                  | _ => exact r2'.elim
                · exact p2.elim
              · exact p2.elim
            · exact p2.elim
          | _ => exact r1'.elim
        · exact p1.elim
      · exact p1.elim
    · exact p1.elim
  · exact p.elim
end
/-! ### loops -/
/-- J goes over the data ds, wherever Z stands -/
def WalkD (K : PySem.W.Frag) (Z : Hp) (J : It) (ds : List D) : Prop := ∃ (Gd : Hp → Prop) (Y : Nat → Hp → V → Hp → Prop), Walk J ds.length Gd Y ∧ (∀ H, Same Z H → Gd H) ∧
  ∀ i H x H' Z1, i < ds.length → Same Z Z1 → Same Z1 H → Y i H x H' → ∃ d Z', ds[i]? = some d ∧ Grow Z1 H Z' H' ∧ Rp K Z' x d
def ItR (K : PySem.W.Frag) : Rel (List D) It := fun Z ρ σ H J ds => WalkD K Z J ds
def ID (X : Cx) (G : Gm) (B : Wish) (tg iter : Expr) (o : O (List D)) : Prop := PI X tg iter fun σ H R => Run X.K G B (ItR X.K) o σ H R
theorem WalkD.mono {K : PySem.W.Frag} {Z Z' : Hp} {J : It} {ds : List D} (h : WalkD K Z J ds) (e : Same Z Z') : WalkD K Z' J ds := by
  obtain ⟨Gd, Y, w, h1, h2⟩ := h
  exact ⟨Gd, Y, w, fun H q => h1 H (e.trans q), fun i H x H' Z1 hi q => h2 i H x H' Z1 hi (e.trans q)⟩
def forL (g : D → Rho → Option Rho) (b : Os) : List D → Rho → Mo
  | [], ρ => .nx ρ
  | d :: ds, ρ => match g d ρ with
    | none => .st
    | some ρ1 => match b ρ1 with
      | .nx ρ2 => forL g b ds ρ2
      | .ct ρ2 => forL g b ds ρ2
      | .bk ρ2 => .nx ρ2
      | .rt r ρ2 => .rt r ρ2
      | .ex x ρ2 => .ex x ρ2
      | .st => .st
@[simp] theorem forL_nil (g : D → Rho → Option Rho) (b : Os) (ρ : Rho) : forL g b [] ρ = .nx ρ := rfl
theorem forL_cons (g : D → Rho → Option Rho) (b : Os) (d : D) (ds : List D) (ρ : Rho) : forL g b (d :: ds) ρ = match g d ρ with
    | none => .st
    | some ρ1 => match b ρ1 with
      | .nx ρ2 => forL g b ds ρ2
      | .ct ρ2 => forL g b ds ρ2
      | .bk ρ2 => .nx ρ2
      | .rt r ρ2 => .rt r ρ2
      | .ex x ρ2 => .ex x ρ2
      | .st => .st := rfl
def oFor (oi : O (List D)) (g : D → Rho → Option Rho) (b : Os) : Os := fun ρ => (oi ρ).bindS fun ds ρ1 => forL g b ds ρ1
section
variable {X : Cx} {G : Gm} {B : Wish} {tg iter c : Expr} {body : List Stmt} {pos : Pos}
theorem sd_for {T : List Nat} {oi : O (List D)} {g : D → Rho → Option Rho} {b : Os} (hp : PassesOwn (model X.prog X.w) X.A X.env X.xe) (hc : X.calm = true) (hi : ID X G B tg iter oi) (hg : GD X G tg T g) (hb : BD X G B body b)
    (hs : ∀ x, foldedSetIterable iter X.env x = pure x := by intro _; rfl) : SD X G B (.For tg iter body [] pos) (oFor oi g b) :=
  ps_imp (ps_for hp hc hi hg hb hs) fun D σ H w => runS_bind (C := fun (J : It) H1 => ∃ W : Nat → Nat → St → Hp → Prop, (∃ m, W 0 m σ H1) ∧ ∀ i m σ H, W i m σ H →
      (J.stop i H ∧ D.nx σ H) ∨ (J.go i H ∧ ∃ N : St → Hp → Prop, (∀ σ' H', N σ' H' → ∃ m', m' < m ∧ W (i + 1) m' σ' H') ∧ ∀ x H', J.yld i H x H' → gRun X.K G T g x σ H' fun σ2 H2 => RunS X.K G B b { D with nx := N, ct := N, bk := D.nx } σ2 H2)) w
    fun J ds ρ1 Z1 H1 S1 wd p1 => by
    obtain ⟨Gd, Y, wk, h1, h2⟩ := wd
    refine for_it wk (fun i σ' H' => ∃ Z ρ, Sim X.K G Z ρ σ' H' ∧ Same Z1 Z ∧ PostS X.K G B Z (forL g b (ds.drop i) ρ) D) ⟨Z1, ρ1, S1, .refl _, by rw [List.drop_zero]; exact p1⟩ (fun i σ' H' _ ⟨Z, ρ, S, e, _⟩ => h1 H' (e.trans S.zh)) ?_ ?_
    · rintro i x σ' H' H2 hi ⟨Z, ρ, S, e, p⟩ y
      obtain ⟨d, Z', hd, gr, rx⟩ := h2 i H' x H2 Z hi e S.zh y
      have hdr : ds.drop i = d :: ds.drop (i + 1) := by
        rw [List.drop_eq_getElem_cons hi]
        have q := (List.getElem?_eq_some_iff.mp hd).2
        rw [q]
      rw [hdr, forL_cons] at p
      cases hg1 : g d ρ with
      | none => rw [hg1] at p; exact p.elim
      | some ρ2 =>
        rw [hg1] at p
        dsimp only at p
        refine ⟨Z', ρ, d, ρ2, S.grow gr, rx, hg1, fun σ2 Z2 H3 _ _ e2 S2 => ⟨Z2, ρ2, S2, ?_⟩⟩
        have e3 : Same Z Z2 := gr.z.trans e2
        have e4 : Same Z1 Z2 := e.trans e3
        cases hb1 : b ρ2 with
        | st => rw [hb1] at p; exact p.elim
        | nx ρ3 =>
          rw [hb1] at p
          exact fun σ4 Z4 H4 e5 S4 => ⟨Z4, ρ3, S4, e4.trans e5, PostS.mono (m := forL g b (ds.drop (i + 1)) ρ3) p (e3.trans e5)⟩
        | ct ρ3 =>
          rw [hb1] at p
          exact fun σ4 Z4 H4 e5 S4 => ⟨Z4, ρ3, S4, e4.trans e5, PostS.mono (m := forL g b (ds.drop (i + 1)) ρ3) p (e3.trans e5)⟩
        | bk ρ3 =>
          rw [hb1] at p
          exact fun σ4 Z4 H4 e5 S4 => p σ4 Z4 H4 (e3.trans e5) S4
        | rt r ρ3 =>
          rw [hb1] at p
          exact fun v σ4 Z4 H4 e5 S4 => p v σ4 Z4 H4 (e3.trans e5) S4
        | ex x ρ3 =>
          rw [hb1] at p
          exact fun σ4 Z4 H4 e5 S4 => p σ4 Z4 H4 (e3.trans e5) S4
    · rintro σ' H' ⟨Z, ρ, S, e, p⟩
      rw [List.drop_length] at p
      exact p σ' Z H' (.refl _) S
end
/-! while -/
def whl (c : O Bool) (b : Os) : Nat → Rho → Mo
  | 0, _ => .st
  | n + 1, ρ => (c ρ).bindS fun t ρ1 => if t = true then match b ρ1 with
      | .nx ρ2 => whl c b n ρ2
      | .ct ρ2 => whl c b n ρ2
      | .bk ρ2 => .nx ρ2
      | .rt r ρ2 => .rt r ρ2
      | .ex x ρ2 => .ex x ρ2
      | .st => .st
    else .nx ρ1
theorem whl_succ (c : O Bool) (b : Os) (n : Nat) (ρ : Rho) : whl c b (n + 1) ρ = (c ρ).bindS fun t ρ1 => if t = true then match b ρ1 with
      | .nx ρ2 => whl c b n ρ2
      | .ct ρ2 => whl c b n ρ2
      | .bk ρ2 => .nx ρ2
      | .rt r ρ2 => .rt r ρ2
      | .ex x ρ2 => .ex x ρ2
      | .st => .st
    else .nx ρ1 := rfl
theorem whl_more (c : O Bool) (b : Os) : ∀ (n : Nat) (ρ : Rho), whl c b n ρ ≠ .st → whl c b (n + 1) ρ = whl c b n ρ
  | 0, _, h => absurd rfl h
  | n + 1, ρ, h => by
    rw [whl_succ] at h ⊢
    rw [whl_succ]
    cases hc : c ρ with
    | st => rw [hc] at h; exact absurd rfl h
    | ex x ρ1 => rfl
    | ok t ρ1 =>
      rw [hc] at h
      simp only [M.bindS_ok] at h ⊢
      by_cases ht : t = true
      · rw [if_pos ht] at h ⊢
        rw [if_pos ht]
        cases hb : b ρ1 with
        | nx ρ2 => rw [hb] at h; exact whl_more c b n ρ2 h
        | ct ρ2 => rw [hb] at h; exact whl_more c b n ρ2 h
        | st => rfl
        | bk ρ2 => rfl
        | rt r ρ2 => rfl
        | ex x ρ2 => rfl
      · rw [if_neg ht, if_neg ht]
theorem whl_le (c : O Bool) (b : Os) {n m : Nat} {ρ : Rho} (h : whl c b n ρ ≠ .st) (e : n ≤ m) : whl c b m ρ = whl c b n ρ := by
  induction e with
  | refl => rfl
  | step _ ih => rw [whl_more c b _ ρ (by rw [ih]; exact h)]; exact ih
open Classical in
noncomputable def oWhile (c : O Bool) (b : Os) : Os := fun ρ => if h : ∃ n, whl c b n ρ ≠ .st then whl c b (Classical.choose h) ρ else .st
theorem oWhile_eq {c : O Bool} {b : Os} {n : Nat} {ρ : Rho} (h : whl c b n ρ ≠ .st) : oWhile c b ρ = whl c b n ρ := by
  unfold oWhile
  have hx : ∃ n, whl c b n ρ ≠ .st := ⟨n, h⟩
  rw [dif_pos hx]
  have h1 := Classical.choose_spec hx
  rcases Nat.le_total n (Classical.choose hx) with e | e
  · exact whl_le c b h e
  · exact (whl_le c b h1 e).symm
theorem oWhile_is {c : O Bool} {b : Os} (n : Nat) {ρ : Rho} {m : Mo} (h : whl c b n ρ = m) (hm : m ≠ .st) : oWhile c b ρ = m := by
  rw [oWhile_eq (n := n) (by rw [h]; exact hm), h]
section
variable {X : Cx} {G : Gm} {B : Wish} {c : Expr} {body : List Stmt} {pos : Pos}
theorem sd_while {oc : O Bool} {b : Os} (hp : PassesOwn (model X.prog X.w) X.A X.env X.xe) (hc : TD X G B c oc) (hb : BD X G B body b) : SD X G B (.While c body [] pos) (oWhile oc b) := by
  refine ps_imp (ps_while hp hc hb) ?_
  rintro D σ H ⟨Z, ρ, S, p⟩
  obtain ⟨n, p⟩ : ∃ n, PostS X.K G B Z (whl oc b n ρ) D := by
    unfold oWhile at p
    split at p
    · exact ⟨_, p⟩
    · exact p.elim
  refine ⟨fun m σ H => ∃ Z ρ, Sim X.K G Z ρ σ H ∧ PostS X.K G B Z (whl oc b m ρ) D, ⟨n, Z, ρ, S, p⟩, ?_⟩
  rintro m σ1 H1 ⟨Z1, ρ1, S1, p1⟩
  cases m with
  | zero => exact p1.elim
  | succ m =>
    rw [whl_succ] at p1
    refine ⟨Z1, ρ1, S1, PostS.bind p1 fun t t' ρ2 Z2 H2 e2 S2 r2 p2 => ?_⟩
    have r2 : t = t' := r2
    subst r2
    cases t with
    | false => exact p2 σ1 Z2 H2 (.refl _) S2
    | true =>
      refine ⟨fun σ' H' => ∃ Z ρ, Sim X.K G Z ρ σ' H' ∧ PostS X.K G B Z (whl oc b m ρ) D, fun σ' H' q => ⟨m, Nat.lt_succ_self m, q⟩, Z2, ρ2, S2, ?_⟩
      have p3 : PostS X.K G B Z2 (match b ρ2 with
        | .nx ρ2 => whl oc b m ρ2
        | .ct ρ2 => whl oc b m ρ2
        | .bk ρ2 => .nx ρ2
        | .rt r ρ2 => .rt r ρ2
        | .ex x ρ2 => .ex x ρ2
        | .st => .st) D := p2
      cases hb1 : b ρ2 with
      | st => rw [hb1] at p3; exact p3.elim
      | nx ρ3 => rw [hb1] at p3; exact fun σ4 Z4 H4 e5 S4 => ⟨Z4, ρ3, S4, PostS.mono (m := whl oc b m ρ3) p3 e5⟩
      | ct ρ3 => rw [hb1] at p3; exact fun σ4 Z4 H4 e5 S4 => ⟨Z4, ρ3, S4, PostS.mono (m := whl oc b m ρ3) p3 e5⟩
      | bk ρ3 => rw [hb1] at p3; exact p3
      | rt r ρ3 => rw [hb1] at p3; exact p3
      | ex x ρ3 => rw [hb1] at p3; exact p3
end
end Ow
namespace Ow
open PySem L2 RZ
/-! ### what is gone over -/
theorem pi_imp {X : Cx} {tg e : Expr} {t t' : TI} (h : PI X tg e t) (k : ∀ σ H R, t' σ H R → t σ H R) : PI X tg e t' := ⟨fun pins s σ H R I w => h.run pins s σ H R I (k _ _ _ w)⟩
theorem pi_alt {X : Cx} {tg e : Expr} {t t' : TI} (h : PI X tg e t) (h' : PI X tg e t') : PI X tg e (fun σ H R => t σ H R ∨ t' σ H R) := ⟨fun pins s σ H R I w => w.elim (h.run pins s σ H R I) (h'.run pins s σ H R I)⟩
def signs (x : Str) : List D := x.cps.toList.map fun c => .str ⟨#[c]⟩
def itm1 (a : Va) (ρ : Rho) : M (List D) := match a with
  | .pu (.list ds) => .ok ds ρ
  | .pu (.tuple ds) => .ok ds ρ
  | .pu (.str x) => .ok (signs x) ρ
  | .pu (.dict [(.none, .list ds)]) => .ok ds ρ
  | .pu (.dict [(.bool true, .tuple ds)]) => .ok ds ρ
  | .rf i => match ρ[i]? with
    | some (.ow false (.li ds)) => .ok ds (ρ.set i (.pu (.list ds)))
    | _ => .st
  | _ => .st
@[simp] theorem itm1_list (ds : List D) (ρ : Rho) : itm1 (.pu (.list ds)) ρ = .ok ds ρ := rfl
@[simp] theorem itm1_tuple (ds : List D) (ρ : Rho) : itm1 (.pu (.tuple ds)) ρ = .ok ds ρ := rfl
@[simp] theorem itm1_str (x : Str) (ρ : Rho) : itm1 (.pu (.str x)) ρ = .ok (signs x) ρ := rfl
@[simp] theorem itm1_scr (ds : List D) (ρ : Rho) : itm1 (.pu (.dict [(.none, .list ds)])) ρ = .ok ds ρ := rfl
@[simp] theorem itm1_kon (ds : List D) (ρ : Rho) : itm1 (.pu (.dict [(.bool true, .tuple ds)])) ρ = .ok ds ρ := rfl
def oItm (o : O Va) : O (List D) := fun ρ => (o ρ).bind itm1
section
variable {K : PySem.W.Frag}
theorem walkD_list {Z : Hp} {a : Addr} {vs : List V} {ds : List D} (h : SqL K Z a vs) (r : RpAll K Z vs ds) : WalkD K Z (Itl K a) ds :=
  ⟨_, _, by rw [← r.length]; exact walk_list (K := K) (a := a) (xs := vs), fun H e => sqL_mono e h, fun i H x H' Z1 hi e e' y => by
    obtain ⟨rfl, hx⟩ := y
    obtain ⟨d, hd, rd⟩ := r.get' hx
    exact ⟨d, Z1, hd, .refl e', rd.mono e⟩⟩
theorem walkD_tup {Z : Hp} {a : Addr} {vs : List V} {ds : List D} (h : SqT K Z a vs) (r : RpAll K Z vs ds) : WalkD K Z (Itt K a) ds :=
  ⟨_, _, by rw [← r.length]; exact walk_tup (K := K) (a := a) (xs := vs), fun H e => sqT_mono e h, fun i H x H' Z1 hi e e' y => by
    obtain ⟨rfl, hx⟩ := y
    obtain ⟨d, hd, rd⟩ := r.get' hx
    exact ⟨d, Z1, hd, .refl e', rd.mono e⟩⟩
theorem walkD_str {Z : Hp} {x : Str} : WalkD K Z (Its x) (signs x) := by
  refine ⟨fun _ => True, fun i H v H' => H' = H ∧ ∃ c, x.cps[i]? = some c ∧ v = .str ⟨#[c]⟩, ?_, fun _ _ => trivial, fun i H v H' Z1 hi e e' y => ?_⟩
  · have hl : (signs x).length = x.cps.size := by unfold signs; rw [List.length_map, Array.length_toList]
    rw [hl]
    exact walk_str
  · obtain ⟨rfl, c, hc, rfl⟩ := y
    refine ⟨.str ⟨#[c]⟩, Z1, ?_, .refl e', .str _⟩
    unfold signs
    rw [List.getElem?_map, Array.getElem?_toList, hc]
    rfl
def rangeD (lo : Int) (n : Nat) : List D := (List.range n).map fun i => .int (lo + (i : Nat))
theorem walkD_range {Z : Hp} {lo : Int} {n : Nat} : WalkD K Z (Itr lo n) (rangeD lo n) := by
  refine ⟨fun _ => True, YFn fun i => .int (lo + i), ?_, fun _ _ => trivial, fun i H v H' Z1 hi e e' y => ?_⟩
  · have hl : (rangeD lo n).length = n := by unfold rangeD; rw [List.length_map, List.length_range]
    rw [hl]
    exact walk_range
  · obtain ⟨rfl, rfl⟩ := y
    refine ⟨.int (lo + i), Z1, ?_, .refl e', .int _⟩
    unfold rangeD at hi ⊢
    rw [List.length_map, List.length_range] at hi
    rw [List.getElem?_map, List.getElem?_range hi]
    rfl
def rangeC (lo c : Int) (n : Nat) : List D := (List.range n).map fun i => .int (lo + (i : Nat) * c)
theorem walkD_rangeC {Z : Hp} {lo c : Int} {n : Nat} : WalkD K Z (Itc lo c n) (rangeC lo c n) := by
  refine ⟨fun _ => True, YFn fun i => .int (lo + (i : Nat) * c), ?_, fun _ _ => trivial, fun i H v H' Z1 hi e e' y => ?_⟩
  · have hl : (rangeC lo c n).length = n := by unfold rangeC; rw [List.length_map, List.length_range]
    rw [hl]
    exact walk_rangeC
  · obtain ⟨rfl, rfl⟩ := y
    refine ⟨.int (lo + i * c), Z1, ?_, .refl e', .int _⟩
    unfold rangeC at hi ⊢
    rw [List.length_map, List.length_range] at hi
    rw [List.getElem?_map, List.getElem?_range hi]
    rfl
/-- pairs made on the way -/
def pairsD : List D → List D → List D
  | a :: as, b :: bs => .tuple [a, b] :: pairsD as bs
  | _, _ => []
theorem pairsD_get : ∀ {as bs : List D} {i : Nat} {a b : D}, as[i]? = some a → bs[i]? = some b → (pairsD as bs)[i]? = some (.tuple [a, b])
  | [], _, _, _, _, h, _ => by simp at h
  | _ :: _, [], _, _, _, _, h => by simp at h
  | a :: as, b :: bs, 0, _, _, h, h' => by simp at h h'; subst h; subst h'; rfl
  | _ :: as, _ :: bs, i + 1, _, _, h, h' => by
    show (pairsD as bs)[i]? = _
    exact pairsD_get (by simpa using h) (by simpa using h')
theorem pairsD_length : ∀ (as bs : List D), (pairsD as bs).length = min as.length bs.length
  | [], _ => by simp [pairsD]
  | _ :: _, [] => by simp [pairsD]
  | _ :: as, _ :: bs => by simp [pairsD, pairsD_length as bs]
def enumD (n : Nat) : List D → List D
  | [] => []
  | d :: ds => .tuple [.int (n : Nat), d] :: enumD (n + 1) ds
theorem enumD_get : ∀ {ds : List D} {n i : Nat} {d : D}, ds[i]? = some d → (enumD n ds)[i]? = some (.tuple [.int ((n + i : Nat) : Int), d])
  | [], _, _, _, h => by simp at h
  | d :: ds, n, 0, _, h => by simp at h; subst h; rfl
  | _ :: ds, n, i + 1, _, h => by
    show (enumD (n + 1) ds)[i]? = _
    rw [enumD_get (by simpa using h)]
    have e : n + 1 + i = n + (i + 1) := by omega
    rw [e]
theorem enumD_length : ∀ (n : Nat) (ds : List D), (enumD n ds).length = ds.length
  | _, [] => rfl
  | n, _ :: ds => by simp [enumD, enumD_length (n + 1) ds]
theorem pair_still {Z H : Hp} (e : Same Z H) {T : Addr} {x y : V} {a b : D} (h : H T = none) (rx : Rp K Z x a) (ry : Rp K Z y b) : ∃ Z', Grow Z H Z' (upd H T (.tup [x, y])) ∧ Rp K Z' (.ref T) (.tuple [a, b]) := by
  have g := Grow.still e h (.tup [x, y])
  exact ⟨_, g, .tup upd_same (.cons (rx.mono g.z) (.cons (ry.mono g.z) .nil))⟩
theorem walkD_enum {Z : Hp} {a : Addr} {vs : List V} {ds : List D} (h : SqL K Z a vs) (r : RpAll K Z vs ds) : WalkD K Z (Ite K a) (enumD 0 ds) :=
  ⟨_, _, by rw [enumD_length, ← r.length]; exact walk_enum (K := K) (a := a) (xs := vs), fun H e => sqL_mono e h, fun i H x H' Z1 hi e e' y => by
    obtain ⟨T, u, v, rfl, hT, rfl, h1, h2⟩ := y
    cases h1
    obtain ⟨d, hd, rd⟩ := r.get' h2
    obtain ⟨Z', g, r'⟩ := pair_still e' hT (.int (i : Nat)) (rd.mono e)
    refine ⟨_, Z', enumD_get hd, g, ?_⟩
    rw [Nat.zero_add]
    exact r'⟩
theorem walkD_zip {Z : Hp} {a b : Addr} {vs ws : List V} {ds es : List D} (h : SqL K Z a vs) (r : RpAll K Z vs ds) (h' : SqL K Z b ws) (r' : RpAll K Z ws es) : WalkD K Z (Itz K a b) (pairsD ds es) :=
  ⟨_, _, walk_zip (K := K) (a := a) (b := b) (xs := vs) (ys := ws) (by rw [pairsD_length, r.length, r'.length]), fun H e => ⟨sqL_mono e h, sqL_mono e h'⟩, fun i H x H' Z1 hi e e' y => by
    obtain ⟨T, u, v, rfl, hT, rfl, h1, h2⟩ := y
    obtain ⟨d, hd, rd⟩ := r.get' h1
    obtain ⟨d', hd', rd'⟩ := r'.get' h2
    obtain ⟨Z', g, q⟩ := pair_still e' hT (rd.mono e) (rd'.mono e)
    exact ⟨_, Z', pairsD_get hd hd', g, q⟩⟩
theorem walk_zipT {a b : Addr} {xs ys : List V} {n : Nat} (hn : n = min xs.length ys.length) : Walk (ItzT K a b) n (fun H => SqT K H a xs ∧ SqT K H b ys) (YPair (fun i => xs[i]?) (fun i => ys[i]?)) := by
  subst hn
  refine ⟨fun i H hi ⟨h1, h2⟩ => ⟨xs, ys, xs[i]'(by omega), ys[i]'(by omega), h1, h2, by simp, by simp⟩, fun H ⟨h1, h2⟩ => ⟨xs, ys, h1, h2, by omega⟩, fun i H x H' hi ⟨h1, h2⟩ y => ?_⟩
  obtain ⟨T, u, v, e1, e2, e3, e4, e5⟩ := y
  exact ⟨T, u, v, e1, e2, e3, e4 xs h1, e5 ys h2⟩
theorem walkD_zipT {Z : Hp} {a b : Addr} {vs ws : List V} {ds es : List D} (h : SqT K Z a vs) (r : RpAll K Z vs ds) (h' : SqT K Z b ws) (r' : RpAll K Z ws es) : WalkD K Z (ItzT K a b) (pairsD ds es) :=
  ⟨_, _, walk_zipT (K := K) (a := a) (b := b) (xs := vs) (ys := ws) (by rw [pairsD_length, r.length, r'.length]), fun H e => ⟨sqT_mono e h, sqT_mono e h'⟩, fun i H x H' Z1 hi e e' y => by
    obtain ⟨T, u, v, rfl, hT, rfl, h1, h2⟩ := y
    obtain ⟨d, hd, rd⟩ := r.get' h1
    obtain ⟨d', hd', rd'⟩ := r'.get' h2
    obtain ⟨Z', g, q⟩ := pair_still e' hT (rd.mono e) (rd'.mono e)
    exact ⟨_, Z', pairsD_get hd hd', g, q⟩⟩
end
section
variable {X : Cx} {G : Gm} {B : Wish} {tg e e2 : Expr} {p pos tpos : Pos} {elts : List Expr} {kk : Nat}
/-- a sequence: a list, a tuple, a text -/
theorem id_seq {o : O Va} (h : ED X G B e o) : ID X G B tg e (oItm o) := by
  refine pi_imp (pi_alt (pi_list h) (pi_alt (pi_tup h) (pi_str h))) ?_
  rintro σ H R ⟨Z, ρ, S, p⟩
  unfold oItm at p
  cases ha : o ρ with
  | st => rw [ha] at p; exact p.elim
  | ex x ρ1 =>
    rw [ha] at p
    refine .inl ⟨Z, ρ, S, ?_⟩
    rw [ha]
    exact p
  | ok a ρ1 =>
    rw [ha] at p
    replace p : Post X.K G B (ItR X.K) σ Z (itm1 a ρ1) R := p
    unfold itm1 at p
    split at p
    · rename_i ds
      refine .inl ⟨Z, ρ, S, ?_⟩
      rw [ha]
      intro x Z1 H1 e1 S1 r1
      replace r1 : Rp X.K Z1 x (.list ds) := r1
      cases r1 with
      | lst h1 h2 => exact ⟨_, rfl, ⟨_, SqL.of (S1.zh _ _ h1)⟩, p _ Z1 H1 e1 S1 (walkD_list (SqL.of h1) h2)⟩
    · rename_i ds
      refine .inr (.inl ⟨Z, ρ, S, ?_⟩)
      rw [ha]
      intro x Z1 H1 e1 S1 r1
      replace r1 : Rp X.K Z1 x (.tuple ds) := r1
      cases r1 with
      | tup h1 h2 => exact ⟨_, rfl, ⟨_, SqT.of (S1.zh _ _ h1)⟩, p _ Z1 H1 e1 S1 (walkD_tup (SqT.of h1) h2)⟩
    · rename_i y
      refine .inr (.inr ⟨Z, ρ, S, ?_⟩)
      rw [ha]
      intro x Z1 H1 e1 S1 r1
      replace r1 : Rp X.K Z1 x (.str y) := r1
      cases r1
      exact ⟨y, rfl, p _ Z1 H1 e1 S1 walkD_str⟩
    · rename_i ds
      refine .inl ⟨Z, ρ, S, ?_⟩
      rw [ha]
      intro x Z1 H1 e1 S1 r1
      replace r1 : Rp X.K Z1 x (scr ds) := r1
      cases r1 with
      | frz h1 h2 => exact ⟨_, rfl, ⟨_, sqL_mono S1.zh h1⟩, p _ Z1 H1 e1 S1 (walkD_list h1 h2)⟩
    · rename_i ds
      refine .inr (.inl ⟨Z, ρ, S, ?_⟩)
      rw [ha]
      intro x Z1 H1 e1 S1 r1
      replace r1 : Rp X.K Z1 x (kon ds) := r1
      cases r1 with
      | kon h1 h2 => exact ⟨_, rfl, ⟨_, sqT_mono S1.zh h1⟩, p _ Z1 H1 e1 S1 (walkD_tup h1 h2)⟩
    · rename_i i
      split at p
      · rename_i ds hr
        refine .inl ⟨Z, ρ, S, ?_⟩
        rw [ha]
        intro x Z1 H1 e1 S1 r1
        replace r1 : σ[i]? = some (some x) := r1
        obtain ⟨b, vs, q, hb, rb, z, S2⟩ := S1.freezeSlot hr
        rw [q] at r1
        cases r1
        have e2 := same_upd z (.lst vs)
        exact ⟨b, rfl, ⟨vs, SqL.of hb⟩, p _ _ H1 (e1.trans e2) S2 (walkD_list (SqL.of upd_same) (rb.mono e2))⟩
      · exact p.elim
    · exact p.elim
def rg1 (ds : List D) (ρ : Rho) : M (List D) := match ds with
  | [.int j] => if j.natAbs < 4611686018427387904 then .ok (rangeD 0 j.toNat) ρ else .st
  | _ => .st
def rg2 (ds : List D) (ρ : Rho) : M (List D) := match ds with
  | [.int i, .int j] => if i.natAbs < 4611686018427387904 ∧ j.natAbs < 4611686018427387904 then .ok (rangeD i (j - i).toNat) ρ else .st
  | _ => .st
/-- a range with a step -/
def rgN (i j c : Int) : Nat := (Builtin.Range.rangeSize i j c).toNat
def rg3 (ds : List D) (ρ : Rho) : M (List D) := match ds with
  | [.int i, .int j, .int c] => if c ≠ 0 ∧ c.natAbs < 1073741824 ∧ Builtin.Range.small i j c = true ∧ 0 ≤ Builtin.Range.rangeSize i j c then .ok (rangeC i c (rgN i j c)) ρ else .st
  | _ => .st
def oRange (o : O (List D)) : O (List D) := fun ρ => (o ρ).bind rg1
def oRange2 (o : O (List D)) : O (List D) := fun ρ => (o ρ).bind rg2
def oRange3 (o : O (List D)) : O (List D) := fun ρ => (o ρ).bind rg3
theorem id_range1 {o : O (List D)} (hg : Gl X "range") (hm : X.mg "range" = none) (ha : QD X G B [e] o) (hs : starEach [e] X.env = [(false, eval e X.env)] := by rfl) : ID X G B tg (.Call (.Name "range" p) [e] [] pos) (oRange o) :=
  pi_imp (pi_range1 hg hm ha hs) fun σ H R w => run_imp (C := fun (vs : List V) H1 => ∃ j : Int, vs = [.int j] ∧ -(2 ^ 62) ≤ j ∧ j < 2 ^ 62 ∧ R (Itr 0 j.toNat) H1) w fun vs ds ρ1 Z1 H1 S1 r1 p1 => by
    unfold rg1 at p1
    split at p1
    · split at p1
      · rename_i j hj
        replace r1 : RpAll X.K Z1 vs [.int j] := r1
        cases r1 with
        | cons h1 h2 =>
          cases h1
          cases h2
          exact ⟨j, rfl, by omega, by omega, p1 _ Z1 H1 (.refl _) S1 walkD_range⟩
      · exact p1.elim
    · exact p1.elim
theorem id_range2 {o : O (List D)} (hg : Gl X "range") (hm : X.mg "range" = none) (ha : QD X G B [e, e2] o) (hs : starEach [e, e2] X.env = [(false, eval e X.env), (false, eval e2 X.env)] := by rfl) (hs2 : starEach [e2] X.env = [(false, eval e2 X.env)] := by rfl) :
    ID X G B tg (.Call (.Name "range" p) [e, e2] [] pos) (oRange2 o) :=
  pi_imp (pi_range2 hg hm ha hs hs2) fun σ H R w => run_imp (C := fun (vs : List V) H1 => ∃ i j : Int, vs = [.int i, .int j] ∧ (-(2 ^ 62) ≤ i ∧ i < 2 ^ 62 ∧ -(2 ^ 62) ≤ j ∧ j < 2 ^ 62) ∧ R (Itr i (j - i).toNat) H1) w fun vs ds ρ1 Z1 H1 S1 r1 p1 => by
    unfold rg2 at p1
    split at p1
    · split at p1
      · rename_i i j hj
        replace r1 : RpAll X.K Z1 vs [.int i, .int j] := r1
        cases r1 with
        | cons h1 h2 =>
          cases h1
          cases h2 with
          | cons h2 h3 =>
            cases h2
            cases h3
            exact ⟨i, j, rfl, by omega, p1 _ Z1 H1 (.refl _) S1 walkD_range⟩
      · exact p1.elim
    · exact p1.elim
theorem id_range3 {e3 : Expr} {o : O (List D)} (hg : Gl X "range") (hm : X.mg "range" = none) (ha : QD X G B [e, e2, e3] o) (hs : starEach [e, e2, e3] X.env = (false, eval e X.env) :: starEach [e2, e3] X.env := by rfl) (hpl : (backTo pos (starEach [e2, e3] X.env)).any (·.1) = false := by rfl) :
    ID X G B tg (.Call (.Name "range" p) [e, e2, e3] [] pos) (oRange3 o) :=
  pi_imp (pi_range3 hg hm ha hs hpl) fun σ H R w => run_imp (C := fun (vs : List V) H1 => ∃ (i j c : Int) (n : Nat), vs = [.int i, .int j, .int c] ∧ RgC i j c n ∧ R (Itc i c n) H1) w fun vs ds ρ1 Z1 H1 S1 r1 p1 => by
    unfold rg3 at p1
    split at p1
    · split at p1
      · rename_i i j c hj
        replace r1 : RpAll X.K Z1 vs [.int i, .int j, .int c] := r1
        cases r1 with
        | cons h1 h2 =>
          cases h1
          cases h2 with
          | cons h2 h3 =>
            cases h2
            cases h3 with
            | cons h3 h4 =>
              cases h3
              cases h4
              exact ⟨i, j, c, rgN i j c, rfl, ⟨hj.1, hj.2.1, hj.2.2.1, by unfold rgN; omega⟩, p1 _ Z1 H1 (.refl _) S1 walkD_rangeC⟩
      · exact p1.elim
    · exact p1.elim
def en1 (d : D) (ρ : Rho) : M (List D) := match d with
  | .list ds => .ok (enumD 0 ds) ρ
  | _ => .st
def oEnumL (o : O D) : O (List D) := fun ρ => (o ρ).bind en1
def zp1 (ds : List D) (ρ : Rho) : M (List D) := match ds with
  | [.list xs, .list ys] => .ok (pairsD xs ys) ρ
  | [.tuple xs, .tuple ys] => .ok (pairsD xs ys) ρ
  | _ => .st
def oZip (o : O (List D)) : O (List D) := fun ρ => (o ρ).bind zp1
theorem id_zip {o : O (List D)} (hg : Gl X "zip") (hm : X.mg "zip" = none) (ha : QD X G B [e, e2] o)
    (hs : starEach [e, e2] X.env = (false, eval e X.env) :: starEach [e2] X.env := by rfl) (hpl : (backTo pos (starEach [e2] X.env)).any (·.1) = false := by rfl) :
    ID X G B (.Tuple elts kk tpos) (.Call (.Name "zip" p) [e, e2] [] pos) (oZip o) :=
  pi_imp (pi_zipA hg hm ha hs hpl) fun σ H R w => run_imp (C := fun (vs : List V) H1 => ∃ a b xs ys, vs = [.ref a, .ref b] ∧ ((SqL X.K H1 a xs ∧ SqL X.K H1 b ys ∧ R (Itz X.K a b) H1) ∨ (SqT X.K H1 a xs ∧ SqT X.K H1 b ys ∧ R (ItzT X.K a b) H1))) w fun vs ds ρ1 Z1 H1 S1 r1 p1 => by
    unfold zp1 at p1
    split at p1
    · rename_i xs ys
      replace r1 : RpAll X.K Z1 vs [.list xs, .list ys] := r1
      cases r1 with
      | cons h1 h2 =>
        cases h2 with
        | cons h2 h3 =>
          cases h3
          cases h1 with
          | lst a1 a2 =>
            cases h2 with
            | lst b1 b2 => exact ⟨_, _, _, _, rfl, .inl ⟨SqL.of (S1.zh _ _ a1), SqL.of (S1.zh _ _ b1), p1 _ Z1 H1 (.refl _) S1 (walkD_zip (SqL.of a1) a2 (SqL.of b1) b2)⟩⟩
    · rename_i xs ys
      replace r1 : RpAll X.K Z1 vs [.tuple xs, .tuple ys] := r1
      cases r1 with
      | cons h1 h2 =>
        cases h2 with
        | cons h2 h3 =>
          cases h3
          cases h1 with
          | tup a1 a2 =>
            cases h2 with
            | tup b1 b2 => exact ⟨_, _, _, _, rfl, .inr ⟨SqT.of (S1.zh _ _ a1), SqT.of (S1.zh _ _ b1), p1 _ Z1 H1 (.refl _) S1 (walkD_zipT (SqT.of a1) a2 (SqT.of b1) b2)⟩⟩
    · exact p1.elim
theorem id_enumL {o : O D} (hg : Gl X "enumerate") (hm : X.mg "enumerate" = none) (ha : PD X G B e o) (hs : starEach [e] X.env = [(false, eval e X.env)] := by rfl) (hs' : starEach [e] X.env = (false, eval e X.env) :: starEach [] X.env := by rfl) :
    ID X G B (.Tuple elts kk tpos) (.Call (.Name "enumerate" p) [e] [] pos) (oEnumL o) :=
  pi_imp (pi_enum hg hm (pa_cons ha pa_nil hs') hs) fun σ H R w => run_imp (C := fun (v : V) H1 => ∃ a xs, [v] = [.ref a] ∧ SqL X.K H1 a xs ∧ R (Ite X.K a) H1) w fun v d ρ1 Z1 H1 S1 r1 p1 => by
    unfold en1 at p1
    split at p1
    · rename_i ds
      replace r1 : Rp X.K Z1 v (.list ds) := r1
      cases r1 with
      | lst a1 a2 => exact ⟨_, _, rfl, SqL.of (S1.zh _ _ a1), p1 _ Z1 H1 (.refl _) S1 (walkD_enum (SqL.of a1) a2)⟩
    · exact p1.elim
end
end Ow
namespace Ow
open PySem L2
/-! ### list comprehensions -/
def noB : Wish := fun _ _ _ _ _ => False
def wipeR (ρ : Rho) : List Nat → Rho
  | [] => ρ
  | v :: vs => (wipeR ρ vs).set v .no
def restR (ρ0 ρ : Rho) : List Nat → Rho
  | [] => ρ
  | v :: vs => (restR ρ0 ρ vs).set v (ρ0.getD v .no)
def loose (s : Option Sl) : Bool := match s with
  | some .no => true
  | some (.pu _) => true
  | _ => false
def okW (ρ : Rho) (vs : List Nat) : Bool := vs.all fun v => loose ρ[v]?
def lcL (vs : List Nat) (g : D → Rho → Option Rho) (ot : O Bool) (oe : O D) : List D → Rho → M (List D)
  | [], ρ => .ok [] ρ
  | d :: ds, ρ => match g d ρ with
    | none => .st
    | some ρ1 => match ot ρ1 with
      | .ok true ρ2 => match oe ρ2 with
        | .ok y ρ3 => (lcL vs g ot oe ds (wipeR ρ3 vs)).bind fun ys ρ4 => .ok (y :: ys) ρ4
        | _ => .st
      | .ok false ρ2 => lcL vs g ot oe ds (wipeR ρ2 vs)
      | _ => .st
@[simp] theorem lcL_nil (vs : List Nat) (g : D → Rho → Option Rho) (ot : O Bool) (oe : O D) (ρ : Rho) : lcL vs g ot oe [] ρ = .ok [] ρ := rfl
theorem lcL_cons (vs : List Nat) (g : D → Rho → Option Rho) (ot : O Bool) (oe : O D) (d : D) (ds : List D) (ρ : Rho) : lcL vs g ot oe (d :: ds) ρ = match g d ρ with
    | none => .st
    | some ρ1 => match ot ρ1 with
      | .ok true ρ2 => match oe ρ2 with
        | .ok y ρ3 => (lcL vs g ot oe ds (wipeR ρ3 vs)).bind fun ys ρ4 => .ok (y :: ys) ρ4
        | _ => .st
      | .ok false ρ2 => lcL vs g ot oe ds (wipeR ρ2 vs)
      | _ => .st := rfl
def lcE (vs : List Nat) (ρ1 : Rho) (m : M (List D)) : M Rs := match m with
  | .ok ys ρ2 => .ok (.nw (.li ys)) (restR ρ1 ρ2 vs)
  | _ => .st
def lc1 (vs : List Nat) (g : D → Rho → Option Rho) (ot : O Bool) (oe : O D) (ds : List D) (ρ1 : Rho) : M Rs :=
  if okW ρ1 vs = true ∧ ds.length ≤ 16000000 then lcE vs ρ1 (lcL vs g ot oe ds (wipeR ρ1 vs)) else .st
def oLc (vs : List Nat) (oi : O (List D)) (g : D → Rho → Option Rho) (ot : O Bool) (oe : O D) : O Rs := fun ρ => (oi ρ).bind (lc1 vs g ot oe)
def oYes : O Bool := fun ρ => .ok true ρ
@[simp] theorem oYes_eq (ρ : Rho) : oYes ρ = .ok true ρ := rfl

theorem wipeR_length (ρ : Rho) : ∀ vs : List Nat, (wipeR ρ vs).length = ρ.length
  | [] => rfl
  | v :: vs => by unfold wipeR; rw [List.length_set, wipeR_length ρ vs]
theorem restR_length (ρ0 ρ : Rho) : ∀ vs : List Nat, (restR ρ0 ρ vs).length = ρ.length
  | [] => rfl
  | v :: vs => by unfold restR; rw [List.length_set, restR_length ρ0 ρ vs]
theorem wipeR_get (ρ : Rho) (j : Nat) : ∀ vs : List Nat, (wipeR ρ vs)[j]? = if j ∈ vs then (if j < ρ.length then some .no else none) else ρ[j]?
  | [] => by simp [wipeR]
  | v :: vs => by
    unfold wipeR
    by_cases h : v = j
    · subst h
      rw [List.getElem?_set]
      simp [wipeR_length]
    · rw [List.getElem?_set_ne h, wipeR_get ρ j vs]
      have q : (j ∈ v :: vs) ↔ (j ∈ vs) := by simp [List.mem_cons, Ne.symm h]
      by_cases hm : j ∈ vs
      · rw [if_pos hm, if_pos (q.mpr hm)]
      · rw [if_neg hm, if_neg (fun e => hm (q.mp e))]
theorem wipe_get (σ : St) (j : Nat) : ∀ vs : List Nat, (wipe σ vs)[j]? = if j ∈ vs then (if j < σ.length then some none else none) else σ[j]?
  | [] => by simp [wipe]
  | v :: vs => by
    unfold wipe
    by_cases h : v = j
    · subst h
      rw [List.getElem?_set]
      simp [wipe_length]
    · rw [List.getElem?_set_ne h, wipe_get σ j vs]
      have q : (j ∈ v :: vs) ↔ (j ∈ vs) := by simp [List.mem_cons, Ne.symm h]
      by_cases hm : j ∈ vs
      · rw [if_pos hm, if_pos (q.mpr hm)]
      · rw [if_neg hm, if_neg (fun e => hm (q.mp e))]
theorem restR_get (ρ0 ρ : Rho) (j : Nat) (hl : ρ0.length = ρ.length) : ∀ vs : List Nat, (restR ρ0 ρ vs)[j]? = if j ∈ vs then ρ0[j]? else ρ[j]?
  | [] => by simp [restR]
  | v :: vs => by
    unfold restR
    by_cases h : v = j
    · subst h
      rw [List.getElem?_set]
      simp only [if_true, restR_length, List.mem_cons, true_or]
      by_cases hv : v < ρ.length
      · rw [if_pos hv, List.getD_eq_getElem?_getD, List.getElem?_eq_getElem (by omega)]
        rfl
      · rw [if_neg hv, List.getElem?_eq_none (by omega)]
    · rw [List.getElem?_set_ne h, restR_get ρ0 ρ j hl vs]
      have q : (j ∈ v :: vs) ↔ (j ∈ vs) := by simp [List.mem_cons, Ne.symm h]
      by_cases hm : j ∈ vs
      · rw [if_pos hm, if_pos (q.mpr hm)]
      · rw [if_neg hm, if_neg (fun e => hm (q.mp e))]
theorem wipe_same {σ σ' : St} {vs : List Nat} (hl : σ'.length = σ.length) (h : ∀ j : Nat, j ∉ vs → σ'[j]? = σ[j]?) : wipe σ' vs = wipe σ vs := by
  refine List.ext_getElem? fun j => ?_
  rw [wipe_get, wipe_get, hl]
  by_cases hj : j ∈ vs
  · rw [if_pos hj, if_pos hj]
  · rw [if_neg hj, if_neg hj, h j hj]
theorem wipe_wipe (σ : St) (vs : List Nat) : wipe (wipe σ vs) vs = wipe σ vs := by
  refine List.ext_getElem? fun j => ?_
  rw [wipe_get, wipe_get, wipe_length]
  by_cases hj : j ∈ vs
  · rw [if_pos hj, if_pos hj]
  · rw [if_neg hj, if_neg hj]
/-- a thing of ours that stands beside the slots -/
def Gm.ghost (G : Gm) (a : Addr) (o : HO) : Gm := { G with H0 := upd G.H0 a o }
section
variable {K : PySem.W.Frag} {G : Gm} {Z : Hp} {ρ ρ' : Rho} {σ : St} {H : Hp} {a : Addr} {o : HO} {vs : List Nat}
theorem Sim.toGhost (S : Sim K G Z ρ σ H) (ho : H a = some o) (z : Z a = none) (n : ∀ (i : Nat) p c, ρ[i]? = some (Sl.ow p c) → σ[i]? ≠ some (some (V.ref a))) : Sim K (G.ghost a o) Z ρ σ H where
  zz := S.zz
  zh := S.zh
  fr := fun b u e l => by
    by_cases hb : b = a
    · subst hb
      have e' : upd G.H0 b o b = some u := e
      rw [upd_same] at e'
      cases e'
      exact ho
    · have e' : upd G.H0 a o b = some u := e
      rw [upd_ne hb] at e'
      exact S.fr b u e' l
  nw := fun b u e => by
    rcases S.nw b u e with q | q
    · exact .inl q
    · refine .inr ?_
      show upd G.H0 a o b = none
      have hb : b ≠ a := fun e' => by subst e'; rw [z] at e; cases e
      rw [upd_ne hb]
      exact q
  pu := S.pu
  ow := fun i p c e => by
    obtain ⟨b, u, q, hu, r, zb, l, nb⟩ := S.ow i p c e
    refine ⟨b, u, q, hu, r, zb, l, fun hp => ?_⟩
    show upd G.H0 a o b = none
    have hb : b ≠ a := fun e' => by subst e'; exact n i p c e q
    rw [upd_ne hb]
    exact nb hp
  ne := S.ne
  pin := S.pin
  len := S.len
theorem Sim.notLent (S : Sim K G Z ρ σ H) (n : ∀ (i : Nat) p c, ρ[i]? = some (Sl.ow p c) → σ[i]? ≠ some (some (V.ref a))) : ¬ G.lent a := fun l => by
  obtain ⟨i, c, _, q, hc, _⟩ := S.lentIn l
  exact n i _ c hc q
theorem Sim.ofGhost (S : Sim K (G.ghost a o) Z ρ σ H) (h0 : G.H0 a = none) (hz : G.Z0 a = none) (hl : ¬ G.lent a) :
    Sim K G Z ρ σ H ∧ H a = some o ∧ Z a = none ∧ ∀ (i : Nat) p c, ρ[i]? = some (Sl.ow p c) → σ[i]? ≠ some (some (V.ref a)) := by
  have up : ∀ b, (G.ghost a o).H0 b = none → G.H0 b = none := fun b e => by
    by_cases hb : b = a
    · subst hb; exact h0
    · have e' : upd G.H0 a o b = none := e
      rw [upd_ne hb] at e'
      exact e'
  have nself : (G.ghost a o).H0 a ≠ none := fun e => by
    have e' : upd G.H0 a o a = none := e
    rw [upd_same] at e'
    cases e'
  refine ⟨⟨S.zz, S.zh, fun b u e l => S.fr b u ?_ l, fun b u e => (S.nw b u e).imp (fun q => q) (up b), S.pu, fun i p c e => ?_, S.ne, S.pin, S.len⟩, S.fr a o ?_ hl, ?_, fun i p c e q => ?_⟩
  · show upd G.H0 a o b = some u
    rw [upd_ne (ne_of_none e h0)]
    exact e
  · obtain ⟨b, u, q, hu, r, zb, l, nb⟩ := S.ow i p c e
    exact ⟨b, u, q, hu, r, zb, l, fun hp => up b (nb hp)⟩
  · show upd G.H0 a o a = some o
    exact upd_same
  · cases e : Z a with
    | none => rfl
    | some u =>
      rcases S.nw a u e with q | q
      · have q' : G.Z0 a = some u := q
        rw [hz] at q'; cases q'
      · exact absurd q nself
  · obtain ⟨b, u, q', hu, r, zb, l, nb⟩ := S.ow i p c e
    rw [q] at q'
    cases q'
    cases p with
    | true => exact hl (l rfl)
    | false => exact nself (nb rfl)
theorem Sim.wipes (S : Sim K G Z ρ σ H) (hv : ∀ v ∈ vs, ∀ x, (v, x) ∉ G.pins) : Sim K G Z (wipeR ρ vs) (wipe σ vs) H := by
  have g : ∀ (j : Nat) s, (wipeR ρ vs)[j]? = some s → s ≠ .no → j ∉ vs ∧ ρ[j]? = some s := fun j s e n => by
    rw [wipeR_get] at e
    by_cases hj : j ∈ vs
    · rw [if_pos hj] at e
      split at e
      · cases e; exact absurd rfl n
      · cases e
    · rw [if_neg hj] at e; exact ⟨hj, e⟩
  have gs : ∀ j : Nat, j ∉ vs → (wipe σ vs)[j]? = σ[j]? := fun j hj => by rw [wipe_get, if_neg hj]
  refine ⟨S.zz, S.zh, S.fr, S.nw, fun j d e => ?_, fun j p c e => ?_, fun j k p q c d n e1 e2 => ?_, fun j x hj => ?_, by rw [wipeR_length, wipe_length]; exact S.len⟩
  · obtain ⟨hj, e⟩ := g j _ e (by simp); rw [gs j hj]; exact S.pu j d e
  · obtain ⟨hj, e⟩ := g j _ e (by simp); rw [gs j hj]; exact S.ow j p c e
  · obtain ⟨hj, e1⟩ := g j _ e1 (by simp)
    obtain ⟨hk, e2⟩ := g k _ e2 (by simp)
    rw [gs j hj, gs k hk]
    exact S.ne j k p q c d n e1 e2
  · have nv : j ∉ vs := fun m => hv j m x hj
    rw [gs j nv, wipeR_get, if_neg nv]
    exact S.pin j x hj
theorem Sim.rests {Z1 H1 : Hp} {ρ1 : Rho} (S1 : Sim K G Z1 ρ1 σ H1) (S : Sim K G Z ρ (wipe σ vs) H) (e : Same Z1 Z) (hw : okW ρ1 vs = true) : Sim K G Z (restR ρ1 ρ vs) σ H := by
  have hl : ρ1.length = ρ.length := by rw [S1.len, S.len, wipe_length]
  have gs : ∀ j : Nat, j ∉ vs → (wipe σ vs)[j]? = σ[j]? := fun j hj => by rw [wipe_get, if_neg hj]
  have ok : ∀ v ∈ vs, loose ρ1[v]? = true := fun v hv => List.all_eq_true.mp hw v hv
  have g : ∀ (j : Nat) p c, (restR ρ1 ρ vs)[j]? = some (Sl.ow p c) → j ∉ vs ∧ ρ[j]? = some (Sl.ow p c) := fun j p c e => by
    rw [restR_get ρ1 ρ j hl] at e
    by_cases hj : j ∈ vs
    · rw [if_pos hj] at e
      have q := ok j hj
      rw [e] at q
      cases q
    · rw [if_neg hj] at e; exact ⟨hj, e⟩
  refine ⟨S.zz, S.zh, S.fr, S.nw, fun j d q => ?_, fun j p c q => ?_, fun j k p q c d n e1 e2 => ?_, fun j x hj => ?_, by rw [restR_length, ← hl]; exact S1.len⟩
  · rw [restR_get ρ1 ρ j hl] at q
    by_cases hj : j ∈ vs
    · rw [if_pos hj] at q
      obtain ⟨v, h1, h2⟩ := S1.pu j d q
      exact ⟨v, h1, h2.mono e⟩
    · rw [if_neg hj] at q
      rw [← gs j hj]
      exact S.pu j d q
  · obtain ⟨hj, q⟩ := g j p c q; rw [← gs j hj]; exact S.ow j p c q
  · obtain ⟨hj, e1⟩ := g j _ _ e1
    obtain ⟨hk, e2⟩ := g k _ _ e2
    rw [← gs j hj, ← gs k hk]
    exact S.ne j k p q c d n e1 e2
  · obtain ⟨q, c, hc⟩ := S1.pin j x hj
    have nv : j ∉ vs := fun m => by have q := ok j m; rw [hc] at q; cases q
    refine ⟨q, ?_⟩
    obtain ⟨_, c', hc'⟩ := S.pin j x hj
    exact ⟨c', by rw [restR_get ρ1 ρ j hl, if_neg nv]; exact hc'⟩
end
def TSD (X : Cx) (G : Gm) (B : Wish) (ifs : List Expr) (o : O Bool) : Prop := PTs X ifs (Run X.K G B BoR o)
theorem pts_imp {X : Cx} {e : List Expr} {t t' : TT} (h : PTs X e t) (k : ∀ σ H Q, t' σ H Q → t σ H Q) : PTs X e t' := ⟨fun pins s σ H Q I w => h.run pins s σ H Q I (k _ _ _ w)⟩
section
variable {X : Cx} {G : Gm} {B : Wish} {elt tg iter c : Expr} {ifs : List Expr} {scope : Scope} {own : List (Str × Nat)} {pos spos py : Pos} {T : List Nat} {oi : O (List D)} {g : D → Rho → Option Rho} {ot : O Bool} {oe : O D}
theorem tsd_nil : TSD X G B [] oYes := pts_imp pts_nil fun σ H Q ⟨Z, ρ, S, p⟩ => p true Z H (.refl _) S rfl
theorem tsd_one {o : O Bool} (h : TD X G B c o) : TSD X G B [c] o := pts_one h
/-- the reading of a comprehension; its parts are read at any ground (the list that grows is a ghost there) -/
theorem run_lc {K : PySem.W.Frag} {gg : TG} {tt : TT} {te : TE} {vs : List Nat} {σ : St} {H : Hp} {Q : VK} (hT : ∀ t ∈ T, t ∈ vs)
    (hg : ∀ G v σ H Q, gRun K G T g v σ H Q → gg v σ H Q) (ht : ∀ G σ H Q, Run K G noB BoR ot σ H Q → tt σ H Q) (he : ∀ G σ H Q, Run K G noB (PuR K) oe σ H Q → te σ H Q)
    (w : Run K G B (RsR K G) (oLc vs oi g ot oe) σ H Q) : tLc (fun σ H R => Run K G B (ItR K) oi σ H R) gg tt te vs σ H Q :=
  run_imp (C := fun (J : It) H1 => ∀ D, H1 D = none → ∃ W : Nat → Nat → Hp → Prop, (∃ m, W 0 m (upd H1 D (.lst []))) ∧ ∀ i m H, W i m H →
      (J.stop i H ∧ Q (.ref D) H) ∨ (J.go i H ∧ ∃ Nx : Hp → Prop, (∀ H', Nx H' → ∃ m', m' < m ∧ W (i + 1) m' H') ∧ ∀ x H', J.yld i H x H' → gg x (wipe σ vs) H' fun σ2 H2 => wipe σ2 vs = wipe σ vs ∧ tt σ2 H2 fun b H3 =>
        if b = true then te σ2 H3 fun y H4 => ∃ acc, H4 D = some (.lst acc) ∧ acc.length < sizeLine ∧ Nx (upd H4 D (.lst (acc ++ [y]))) else Nx H3)) w fun J ds ρ1 Z1 H1 S1 wd p1 => by
    intro L hL
    unfold lc1 at p1
    split at p1
    · rename_i hok
      obtain ⟨hw, hlen⟩ := hok
      cases hm : lcL vs g ot oe ds (wipeR ρ1 vs) with
      | st => rw [hm] at p1; exact p1.elim
      | ex x ρ2 => rw [hm] at p1; exact p1.elim
      | ok ysF ρF =>
        rw [hm] at p1
        have p2 : Post K G B (RsR K G) σ Z1 (.ok (.nw (.li ysF)) (restR ρ1 ρF vs)) Q := p1
        obtain ⟨Gd, Y, wk, h1, h2⟩ := wd
        have zL : Z1 L = none := S1.fresh hL
        have gL : G.H0 L = none := S1.freshIn hL
        have z0L : G.Z0 L = none := none_of_same S1.zz zL
        have nS1 : ∀ (i : Nat) p c, ρ1[i]? = some (Sl.ow p c) → σ[i]? ≠ some (some (V.ref L)) := fun i p c hi q => by
          obtain ⟨a', o', q', ho', _⟩ := S1.ow i p c hi
          rw [q] at q'
          cases q'
          rw [hL] at ho'
          cases ho'
        have nl : ¬ G.lent L := S1.notLent nS1
        have hv : ∀ v ∈ vs, ∀ x, (v, x) ∉ G.pins := fun v hv x hx => by
          obtain ⟨_, c, hc⟩ := S1.pin v x hx
          have q := List.all_eq_true.mp hw v hv
          rw [hc] at q
          cases q
        have Sw : Sim K G Z1 (wipeR ρ1 vs) (wipe σ vs) (upd H1 L (.lst [])) := (S1.grow (.loose S1.zh hL (.lst []))).wipes hv
        have nSw : ∀ (i : Nat) p c, (wipeR ρ1 vs)[i]? = some (Sl.ow p c) → (wipe σ vs)[i]? ≠ some (some (V.ref L)) := fun i p c hi q => by
          rw [wipeR_get] at hi
          by_cases hj : i ∈ vs
          · rw [if_pos hj] at hi
            split at hi
            · cases hi
            · cases hi
          · rw [if_neg hj] at hi
            rw [wipe_get, if_neg hj] at q
            exact nS1 i p c hi q
        refine lc_it wk (fun i H => ∃ Z ρ acc accV ys, Sim K G Z ρ (wipe σ vs) H ∧ Same Z1 Z ∧ H L = some (.lst accV) ∧ RpAll K Z accV acc ∧ Z L = none ∧ (∀ (i : Nat) p c, ρ[i]? = some (Sl.ow p c) → (wipe σ vs)[i]? ≠ some (some (V.ref L))) ∧
          acc.length ≤ i ∧ lcL vs g ot oe (ds.drop i) ρ = .ok ys ρF ∧ ysF = acc ++ ys)
          ⟨Z1, wipeR ρ1 vs, [], [], ysF, Sw, .refl _, upd_same, .nil, zL, nSw, Nat.le_refl _, by rw [List.drop_zero]; exact hm, rfl⟩ (fun i H' _ ⟨Z, ρ, acc, accV, ys, S, e, _⟩ => h1 H' (e.trans S.zh)) ?_ ?_
        · rintro i x H' H2 hi ⟨Z, ρ, acc, accV, ys, S, e, hacc, racc, zz, nn, hal, hlc, hys⟩ y
          obtain ⟨d, Z', hd, gr, rx⟩ := h2 i H' x H2 Z hi e S.zh y
          have hdr : ds.drop i = d :: ds.drop (i + 1) := by
            rw [List.drop_eq_getElem_cons hi]
            have q := (List.getElem?_eq_some_iff.mp hd).2
            rw [q]
          rw [hdr, lcL_cons] at hlc
          have S' := S.grow gr
          have hacc' : H2 L = some (.lst accV) := gr.h _ _ hacc
          have zz' : Z' L = none := by
            cases q : Z' L with
            | none => rfl
            | some u =>
              rcases gr.n L u q with q' | q'
              · rw [zz] at q'; cases q'
              · rw [hacc] at q'; cases q'
          have SG := S'.toGhost hacc' zz' nn
          cases hg1 : g d ρ with
          | none => rw [hg1] at hlc; cases hlc
          | some ρ2 =>
            rw [hg1] at hlc
            dsimp only at hlc
            refine hg (G.ghost L (.lst accV)) _ _ _ _ ⟨Z', ρ, d, ρ2, SG, rx, hg1, fun σ2 Z2 H3 hl2 hj2 e2 S2 => ?_⟩
            have hw2 : wipe σ2 vs = wipe σ vs := by
              rw [wipe_same hl2 fun j hj => hj2 j fun m => hj (hT j m), wipe_wipe]
            refine ⟨hw2, ht (G.ghost L (.lst accV)) _ _ _ ⟨Z2, ρ2, S2, ?_⟩⟩
            cases ht1 : ot ρ2 with
            | st => rw [ht1] at hlc; cases hlc
            | ex x ρ3 => rw [ht1] at hlc; cases hlc
            | ok b ρ3 =>
              rw [ht1] at hlc
              intro b' Z3 H4 e3 S3 rb
              have rb : b' = b := rb
              subst rb
              cases b' with
              | false =>
                dsimp only at hlc
                rw [if_neg Bool.false_ne_true]
                obtain ⟨S4, h4, z4, n4⟩ := S3.ofGhost gL z0L nl
                have S5 := S4.wipes hv
                rw [hw2] at S5
                refine ⟨Z3, wipeR ρ3 vs, acc, accV, ys, S5, e.trans (gr.z.trans (e2.trans e3)), h4, racc.mono (gr.z.trans (e2.trans e3)), z4, fun i p c hi q => ?_, Nat.le_succ_of_le hal, hlc, hys⟩
                rw [wipeR_get] at hi
                by_cases hj : i ∈ vs
                · rw [if_pos hj] at hi
                  split at hi
                  · cases hi
                  · cases hi
                · rw [if_neg hj] at hi
                  rw [← hw2, wipe_get, if_neg hj] at q
                  exact n4 i p c hi q
              | true =>
                dsimp only at hlc
                rw [if_pos rfl]
                refine he (G.ghost L (.lst accV)) _ _ _ ⟨Z3, ρ3, S3, ?_⟩
                cases he1 : oe ρ3 with
                | st => rw [he1] at hlc; cases hlc
                | ex x ρ4 => rw [he1] at hlc; cases hlc
                | ok y ρ4 =>
                  rw [he1] at hlc
                  dsimp only at hlc
                  intro yv Z4 H5 e4 S4 ry
                  have ry : Rp K Z4 yv y := ry
                  obtain ⟨S5, h5, z5, n5⟩ := S4.ofGhost gL z0L nl
                  cases hr : lcL vs g ot oe (ds.drop (i + 1)) (wipeR ρ4 vs) with
                  | st => rw [hr] at hlc; cases hlc
                  | ex x ρ5 => rw [hr] at hlc; cases hlc
                  | ok ys' ρ5 =>
                    rw [hr] at hlc
                    cases hlc
                    have ea := gr.z.trans (e2.trans (e3.trans e4))
                    have hal' : accV.length = acc.length := racc.length
                    refine ⟨accV, h5, lim_lt (by omega), ?_⟩
                    -- the list has grown
                    have S6 : Sim K G Z4 (wipeR ρ4 vs) (wipe σ vs) (upd H5 L (.lst (accV ++ [yv]))) := by
                      have S7 := S5.wipes hv
                      rw [hw2] at S7
                      have nn7 : ∀ (i : Nat) p c, (wipeR ρ4 vs)[i]? = some (Sl.ow p c) → (wipe σ vs)[i]? ≠ some (some (V.ref L)) := fun i p c hi q => by
                        rw [wipeR_get] at hi
                        by_cases hj : i ∈ vs
                        · rw [if_pos hj] at hi
                          split at hi
                          · cases hi
                          · cases hi
                        · rw [if_neg hj] at hi
                          rw [← hw2, wipe_get, if_neg hj] at q
                          exact n5 i p c hi q
                      refine ⟨S7.zz, fun b u q => ?_, fun b u q l => ?_, S7.nw, S7.pu, fun j p c q => ?_, S7.ne, S7.pin, S7.len⟩
                      · rw [upd_ne (ne_of_none q z5)]; exact S7.zh _ _ q
                      · have hb : b ≠ L := fun e' => by subst e'; rw [gL] at q; cases q
                        rw [upd_ne hb]; exact S7.fr b u q l
                      · obtain ⟨a', o', q', ho', r'⟩ := S7.ow j p c q
                        have hb : a' ≠ L := fun e' => by subst e'; exact nn7 j p c q q'
                        exact ⟨a', o', q', by rw [upd_ne hb]; exact ho', r'⟩
                    refine ⟨Z4, wipeR ρ4 vs, acc ++ [y], accV ++ [yv], ys', S6, e.trans ea, upd_same, (racc.mono ea).append (.one ry), z5, fun i p c hi q => ?_, by simp; omega, hr, by rw [hys]; simp⟩
                    rw [wipeR_get] at hi
                    by_cases hj : i ∈ vs
                    · rw [if_pos hj] at hi
                      split at hi
                      · cases hi
                      · cases hi
                    · rw [if_neg hj] at hi
                      rw [← hw2, wipe_get, if_neg hj] at q
                      exact n5 i p c hi q
        · rintro H' ⟨Z, ρ, acc, accV, ys, S, e, hacc, racc, zz, nn, hal, hlc, hys⟩
          rw [List.drop_length] at hlc
          cases hlc
          rw [List.append_nil] at hys
          subst hys
          have SR := S1.rests S e hw
          refine p2 (.ref L) Z H' e SR ⟨L, .lst accV, rfl, hacc, racc, zz, gL, fun i p c hi q => ?_⟩
          rw [restR_get ρ1 ρF i (by rw [S1.len, S.len, wipe_length])] at hi
          by_cases hj : i ∈ vs
          · rw [if_pos hj] at hi
            exact nS1 i p c hi q
          · rw [if_neg hj] at hi
            refine nn i p c hi ?_
            rw [wipe_get, if_neg hj]
            exact q
    · exact p1.elim
theorem rd_lc (hc : X.calm = true) (hN : X.N.Nodup) (hT : ∀ t ∈ T, t ∈ own.map (·.2)) (hi : ID X G B tg iter oi) (ok : BlkOk X.N X.env.scope scope own)
    (hg : ∀ (s : Shared) (H : Hp) (C : Addr) (cl : List (Str × Addr)) (fp : List Addr) (G : Gm), GD (X.blk s H scope (compEnvC scope cl C X.env) fp) G tg T g)
    (ht : ∀ (s : Shared) (H : Hp) (C : Addr) (cl : List (Str × Addr)) (fp : List Addr) (G : Gm), TSD (X.blk s H scope (compEnvC scope cl C X.env) fp) G noB ifs ot)
    (he : ∀ (s : Shared) (H : Hp) (C : Addr) (cl : List (Str × Addr)) (fp : List Addr) (G : Gm), PD (X.blk s H scope (compEnvC scope cl C X.env) fp) G noB elt oe)
    (hs : ∀ x, foldedSetIterable iter X.env x = pure x := by intro _; rfl) : RD X G B (.ListComp elt [⟨tg, iter, ifs, 0⟩] scope pos) (oLc (own.map (·.2)) oi g ot oe) :=
  pe_imp (pe_lc hc hN hi ok (g := fun v σ H Q => ∃ G, gRun X.K G T g v σ H Q) (tt := fun σ H Q => ∃ G, Run X.K G noB BoR ot σ H Q) (te := fun σ H Q => ∃ G, Run X.K G noB (PuR X.K) oe σ H Q)
    (fun s H C cl fp => ⟨fun pins s' σ H' v u Q I r ⟨G', w⟩ => (hg s H C cl fp G').run pins s' σ H' v u Q I r w⟩) (fun s H C cl fp => ⟨fun pins s' σ H' Q I ⟨G', w⟩ => (ht s H C cl fp G').run pins s' σ H' Q I w⟩)
    (fun s H C cl fp => ⟨fun pins s' σ H' Q I ⟨G', w⟩ => (he s H C cl fp G').run pins s' σ H' Q I w⟩) hs) fun σ H Q w => run_lc hT (fun G _ _ _ _ w => ⟨G, w⟩) (fun G _ _ _ w => ⟨G, w⟩) (fun G _ _ _ w => ⟨G, w⟩) w
theorem sd_setLc (i : Nat) {y : Str} (hc : X.calm = true) (hN : X.N.Nodup) (hT : ∀ t ∈ T, t ∈ own.map (·.2)) (hy : X.N[i]? = some y) (hyl : X.env.scope.names.lookup y = some .local)
    (hsw : swapsWith (.ListComp elt [⟨tg, iter, ifs, 0⟩] scope pos) (some (.Name y py)) spos.line X.env = pure true) (hi : ID X G B tg iter oi) (ok : BlkOk X.N X.env.scope scope own)
    (hg : ∀ (s : Shared) (H : Hp) (C : Addr) (cl : List (Str × Addr)) (fp : List Addr) (G : Gm), GD (X.blk s H scope (compEnvC scope cl C X.env) fp) G tg T g)
    (ht : ∀ (s : Shared) (H : Hp) (C : Addr) (cl : List (Str × Addr)) (fp : List Addr) (G : Gm), TSD (X.blk s H scope (compEnvC scope cl C X.env) fp) G noB ifs ot)
    (he : ∀ (s : Shared) (H : Hp) (C : Addr) (cl : List (Str × Addr)) (fp : List Addr) (G : Gm), PD (X.blk s H scope (compEnvC scope cl C X.env) fp) G noB elt oe)
    (hs : ∀ x, foldedSetIterable iter X.env x = pure x := by intro _; rfl) : SD X G B (.Assign [.Name y py] (.ListComp elt [⟨tg, iter, ifs, 0⟩] scope pos) spos) (oSet i (oLc (own.map (·.2)) oi g ot oe)) :=
  ps_imp (ps_setLc hc hN hy hyl hsw hi ok (g := fun v σ H Q => ∃ G, gRun X.K G T g v σ H Q) (tt := fun σ H Q => ∃ G, Run X.K G noB BoR ot σ H Q) (te := fun σ H Q => ∃ G, Run X.K G noB (PuR X.K) oe σ H Q)
    (fun s H C cl fp => ⟨fun pins s' σ H' v u Q I r ⟨G', w⟩ => (hg s H C cl fp G').run pins s' σ H' v u Q I r w⟩) (fun s H C cl fp => ⟨fun pins s' σ H' Q I ⟨G', w⟩ => (ht s H C cl fp G').run pins s' σ H' Q I w⟩)
    (fun s H C cl fp => ⟨fun pins s' σ H' Q I ⟨G', w⟩ => (he s H C cl fp G').run pins s' σ H' Q I w⟩) hs) fun D σ H w =>
    run_lc (Q := fun x H1 => gName i x σ H1 D.nx) hT (fun G _ _ _ _ w => ⟨G, w⟩) (fun G _ _ _ w => ⟨G, w⟩) (fun G _ _ _ w => ⟨G, w⟩) (asg_name w)
end
end Ow
namespace Ow
open PySem PySem.Spec PyProof.Rows L2
/-! ### defs: data and lent things in, data or a new thing and what was lent out -/
inductive Fr where
  | st
  | ret (r : Rs) (outs : List Sl)
  | exc (x : Xn) (outs : List Sl)
abbrev Fn := List Sl → Fr
structure ArgsR (K : PySem.W.Frag) (Z H : Hp) (vs : List V) (as : List Sl) : Prop where
  len : vs.length = as.length
  no : ∀ i : Nat, as[i]? ≠ some Sl.no
  pu : ∀ (i : Nat) d, as[i]? = some (Sl.pu d) → ∃ v, vs[i]? = some v ∧ Rp K Z v d
  ow : ∀ (i : Nat) p c, as[i]? = some (Sl.ow p c) → p = true ∧ ∃ a o, vs[i]? = some (V.ref a) ∧ H a = some o ∧ CtR K Z o c ∧ Z a = none
  ne : ∀ (i j : Nat) p q c d, i ≠ j → as[i]? = some (Sl.ow p c) → as[j]? = some (Sl.ow q d) → vs[i]? ≠ vs[j]?
def lentBy (vs : List V) (as : List Sl) (a : Addr) : Prop := ∃ (i : Nat) (p : Bool) (c : Ct), as[i]? = some (Sl.ow p c) ∧ vs[i]? = some (V.ref a)
structure After (K : PySem.W.Frag) (Z H : Hp) (vs : List V) (as outs : List Sl) (Z' H' : Hp) : Prop where
  z : Same Z Z'
  zh : Same Z' H'
  fr : ∀ a o, H a = some o → ¬ lentBy vs as a → H' a = some o
  n : ∀ a o, Z' a = some o → Z a = some o ∨ H a = none
  outs : ∀ (i : Nat) p c a, as[i]? = some (Sl.ow p c) → vs[i]? = some (V.ref a) → ∃ o c', outs[i]? = some (Sl.ow true c') ∧ H' a = some o ∧ CtR K Z' o c' ∧ Z' a = none
/-- the exception x: its class stands in the module, its own dict holds what it is told -/
def XnR (K : PySem.W.Frag) (Z : Hp) (x : Xn) (cls : Value) (d : Option Addr) (H : Hp) : Prop :=
  ∃ C, cls = .ref C ∧ PySem.W.nsIn K mainGlobals x.cls = some (some (.ref C)) ∧ (x.told = [] ∨ ∃ dd fs, d = some dd ∧ H dd = some (.xd fs) ∧ fs.map (·.1) = x.told.map (·.1) ∧ RpAll K Z (fs.map (·.2)) (x.told.map (·.2)))
def spD (K : PySem.W.Frag) (n : Nat) (g : Fn) : Sp := fun vs H Q E => vs.length = n ∧ ∃ Z as, Same Z H ∧ ArgsR K Z H vs as ∧ match g as with
  | .st => False
  | .ret r outs => ∀ v Z' H', After K Z H vs as outs Z' H' → ResG K Z' H H' v r → Q v H'
  | .exc x outs => ∀ cls d Z' H', After K Z H vs as outs Z' H' → XnR K Z' x cls d H' → E cls d H'
/-! the body of a def, as such a function -/
def fnOf (n : Nat) (b : Os) : Fn := fun as => match b (as ++ List.replicate (n - as.length) Sl.no) with
  | .nx ρ => .ret (.pu .none) (ρ.take as.length)
  | .rt r ρ => .ret r (ρ.take as.length)
  | _ => .st
def fnOfX (n : Nat) (b : Os) : Fn := fun as => match b (as ++ List.replicate (n - as.length) Sl.no) with
  | .nx ρ => .ret (.pu .none) (ρ.take as.length)
  | .rt r ρ => .ret r (ρ.take as.length)
  | .ex x ρ => .exc x (ρ.take as.length)
  | _ => .st
def pinsOf (vs : List V) (as : List Sl) : List (Nat × Addr) := (List.range as.length).filterMap fun i => match as[i]?, vs[i]? with
  | some (Sl.ow _ _), some (V.ref a) => some (i, a)
  | _, _ => none
theorem mem_pinsOf {vs : List V} {as : List Sl} {i : Nat} {a : Addr} : (i, a) ∈ pinsOf vs as ↔ ∃ p c, as[i]? = some (Sl.ow p c) ∧ vs[i]? = some (V.ref a) := by
  unfold pinsOf
  rw [List.mem_filterMap]
  constructor
  · rintro ⟨j, hj, e⟩
    split at e
    · rename_i p c b h1 h2
      cases e
      exact ⟨p, c, h1, h2⟩
    · cases e
  · rintro ⟨p, c, h1, h2⟩
    refine ⟨i, List.mem_range.mpr (List.getElem?_eq_some_iff.mp h1).1, ?_⟩
    rw [h1, h2]
def gOf (Z H : Hp) (vs : List V) (as : List Sl) : Gm := ⟨H, Z, pinsOf vs as⟩
theorem gOf_lent {Z H : Hp} {vs : List V} {as : List Sl} {a : Addr} : (gOf Z H vs as).lent a ↔ lentBy vs as a := by
  unfold Gm.lent lentBy
  constructor
  · rintro ⟨i, h⟩
    obtain ⟨p, c, h1, h2⟩ := mem_pinsOf.mp h
    exact ⟨i, p, c, h1, h2⟩
  · rintro ⟨i, p, c, h1, h2⟩
    exact ⟨i, mem_pinsOf.mpr ⟨p, c, h1, h2⟩⟩
theorem start_get {N : List Str} {vs : List V} {i : Nat} {v : V} (h : vs[i]? = some v) : (L2.start N vs)[i]? = some (some v) := by
  unfold L2.start
  have hi : i < vs.length := (List.getElem?_eq_some_iff.mp h).1
  rw [List.getElem?_append_left (by simpa using hi), List.getElem?_map, h]
  rfl
theorem sim_start {K : PySem.W.Frag} {Z H : Hp} {vs : List V} {as : List Sl} {N : List Str} (e : Same Z H) (R : ArgsR K Z H vs as) (hl : as.length ≤ N.length) :
    Sim K (gOf Z H vs as) Z (as ++ List.replicate (N.length - as.length) Sl.no) (L2.start N vs) H := by
  have g : ∀ (j : Nat) s, (as ++ List.replicate (N.length - as.length) Sl.no)[j]? = some s → s ≠ .no → as[j]? = some s := fun j s h n => by
    by_cases hj : j < as.length
    · rw [List.getElem?_append_left hj] at h; exact h
    · rw [List.getElem?_append_right (by omega), List.getElem?_replicate] at h
      split at h
      · cases h; exact absurd rfl n
      · cases h
  refine ⟨.refl _, e, fun a o h _ => h, fun a o h => .inl h, fun i d h => ?_, fun i p c h => ?_, fun i j p q c d n h1 h2 => ?_, fun i a h => ?_, ?_⟩
  · obtain ⟨v, h1, h2⟩ := R.pu i d (g i _ h (by simp)); exact ⟨v, start_get h1, h2⟩
  · have h' := g i _ h (by simp)
    obtain ⟨rfl, a, o, h1, h2, h3, h4⟩ := R.ow i p c h'
    exact ⟨a, o, start_get h1, h2, h3, h4, fun _ => gOf_lent.mpr ⟨i, _, c, h', h1⟩, fun q => by cases q⟩
  · have h1' := g i _ h1 (by simp)
    have h2' := g j _ h2 (by simp)
    obtain ⟨_, a, _, q1, _⟩ := R.ow i p c h1'
    obtain ⟨_, b, _, q2, _⟩ := R.ow j q d h2'
    rw [start_get q1, start_get q2]
    intro e'
    cases e'
    exact R.ne i j p q c d n h1' h2' (q1.trans q2.symm)
  · obtain ⟨p, c, h1, h2⟩ := mem_pinsOf.mp h
    obtain ⟨rfl, _⟩ := R.ow i p c h1
    refine ⟨start_get h2, c, ?_⟩
    rw [List.getElem?_append_left (List.getElem?_eq_some_iff.mp h1).1]
    exact h1
  · unfold L2.start
    rw [List.length_append, List.length_append, List.length_map, List.length_replicate, List.length_replicate, R.len]
theorem after_of {K : PySem.W.Frag} {Z H Z' H' : Hp} {vs : List V} {as : List Sl} {ρ : Rho} {σ : L2.St} (S : Sim K (gOf Z H vs as) Z' ρ σ H') : After K Z H vs as (ρ.take as.length) Z' H' := by
  refine ⟨S.zz, S.zh, fun a o h l => S.fr a o h fun q => l (gOf_lent.mp q), S.nw, fun i p c a h1 h2 => ?_⟩
  obtain ⟨q, c', hc'⟩ := S.pin i a (mem_pinsOf.mpr ⟨p, c, h1, h2⟩)
  obtain ⟨b, o, q', ho, r, z, _⟩ := S.ow i _ _ hc'
  rw [q] at q'
  cases q'
  refine ⟨o, c', ?_, ho, r, z⟩
  rw [List.getElem?_take_of_lt (List.getElem?_eq_some_iff.mp h1).1]
  exact hc'
theorem res_of {K : PySem.W.Frag} {Z H Z' H' : Hp} {vs : List V} {as : List Sl} {ρ : Rho} {σ : L2.St} {v : V} {r : Rs} (h : RsR K (gOf Z H vs as) Z' ρ σ H' v r) : ResG K Z' H H' v r := by
  cases r with
  | pu d => exact h
  | nw c =>
    obtain ⟨a, o, e, ho, cr, z, n, _⟩ := h
    exact ⟨a, o, e, n, z, ho, cr⟩
section
variable {P : Program} {w : World} {K : PySem.W.Frag} {mg : Str → Option Value} {base : Heap} {x qual : Str} {params : Arguments} {body : List Stmt} {scope : Scope} {dvs : List V} {kws : List (Str × V)} {f : Addr} {fd : FuncData}
/-- THE RULE for a def that lets nothing out -/
theorem fn_ok {N ps : List Str} {k : Nat} {b : Os} (F : FunD K x qual params body scope dvs kws f fd) (S : FnScope N ps scope) (hpl : ps.length ≤ N.length)
    (hb : ∀ (cdv : Value) (A : Around) (outer : List Env) (s : Shared) (H : Hp) (E : XK), Room k (A.deeper (envOfC qual scope s.heap.objs.size f cdv)) → ∀ G, BD (cxOf CX0 P w K mg base N qual scope f cdv A outer s H E).nox G noB body b) :
    FnOk P w K mg base CX0 (k + 1) f fd ps (spD K ps.length (fnOf N.length b)) := by
  refine F.ok S (fun vs H Q E h => h.1) (fun cdv A outer s H vs Q E hr h => ⟨fun D σ H => ∃ G, RunS K G noB b D σ H, PSs.nox ?_, ?_⟩)
  · exact ⟨fun pins s' σ H' D I ⟨G, w⟩ => (hb cdv A outer s H E hr G).run pins s' σ H' D I w⟩
  · obtain ⟨hl, Z, as, e, R, h⟩ := h
    have hla : as.length = ps.length := by rw [← R.len]; exact hl
    refine ⟨gOf Z H vs as, Z, _, sim_start e R (by omega), ?_⟩
    unfold fnOf at h
    cases hm : b (as ++ List.replicate (N.length - as.length) Sl.no) with
    | st => rw [hm] at h; exact h.elim
    | bk ρ => rw [hm] at h; exact h.elim
    | ct ρ => rw [hm] at h; exact h.elim
    | nx ρ => rw [hm] at h; exact fun σ Z' H' e' S' => h .non Z' H' (after_of S') .non
    | rt r ρ => rw [hm] at h; exact fun v σ Z' H' e' S' hr' => h v Z' H' (after_of S') (res_of hr')
    | ex y ρ => rw [hm] at h; exact h.elim
end
/-! ### a call -/
def argOf (ρ : Rho) : Va → Option Sl
  | .pu d => some (.pu d)
  | .rf i => match ρ[i]? with
    | some (.ow _ c) => some (.ow true c)
    | _ => none
def argsOf (ρ : Rho) : List Va → Option (List Sl)
  | [] => some []
  | a :: as => match argOf ρ a, argsOf ρ as with
    | some s, some r => some (s :: r)
    | _, _ => none
@[simp] theorem argsOf_nil (ρ : Rho) : argsOf ρ [] = some [] := rfl
@[simp] theorem argsOf_cons (ρ : Rho) (a : Va) (as : List Va) : argsOf ρ (a :: as) = match argOf ρ a, argsOf ρ as with | some s, some r => some (s :: r) | _, _ => none := rfl
@[simp] theorem argOf_pu (ρ : Rho) (d : D) : argOf ρ (.pu d) = some (.pu d) := rfl
def rfs : List Va → List Nat
  | [] => []
  | .rf i :: as => i :: rfs as
  | .pu _ :: as => rfs as
@[simp] theorem rfs_nil : rfs [] = [] := rfl
@[simp] theorem rfs_pu (d : D) (as : List Va) : rfs (.pu d :: as) = rfs as := rfl
@[simp] theorem rfs_rf (i : Nat) (as : List Va) : rfs (.rf i :: as) = i :: rfs as := rfl
def setCt (ρ : Rho) (i : Nat) (c : Ct) : Rho := match ρ[i]? with
  | some (.ow p _) => ρ.set i (.ow p c)
  | _ => ρ
def wb : List Va → List Sl → Rho → Rho
  | .rf i :: vs, .ow _ c :: os, ρ => wb vs os (setCt ρ i c)
  | _ :: vs, _ :: os, ρ => wb vs os ρ
  | _, _, ρ => ρ
@[simp] theorem wb_nil (os : List Sl) (ρ : Rho) : wb [] os ρ = ρ := by cases os <;> rfl
@[simp] theorem wb_rf (i : Nat) (vs : List Va) (p : Bool) (c : Ct) (os : List Sl) (ρ : Rho) : wb (.rf i :: vs) (.ow p c :: os) ρ = wb vs os (setCt ρ i c) := rfl
@[simp] theorem wb_pu (d : D) (vs : List Va) (o : Sl) (os : List Sl) (ρ : Rho) : wb (.pu d :: vs) (o :: os) ρ = wb vs os ρ := by cases o <;> rfl
def call1 (g : Fn) (vas : List Va) (ρ : Rho) : M Rs := match argsOf ρ vas with
  | some as => if (rfs vas).Nodup then match g as with
    | .st => .st
    | .ret r outs => .ok r (wb vas outs ρ)
    | .exc x outs => .ex x (wb vas outs ρ)
    else .st
  | none => .st
def oCall (g : Fn) (oas : O (List Va)) : O Rs := fun ρ => (oas ρ).bind (call1 g)
theorem setCt_length (ρ : Rho) (i : Nat) (c : Ct) : (setCt ρ i c).length = ρ.length := by
  unfold setCt
  split
  · rw [List.length_set]
  · rfl
theorem setCt_ne (ρ : Rho) {i j : Nat} (c : Ct) (h : i ≠ j) : (setCt ρ i c)[j]? = ρ[j]? := by
  unfold setCt
  split
  · rw [List.getElem?_set_ne h]
  · rfl
theorem setCt_eq {ρ : Rho} {i : Nat} {p : Bool} {c : Ct} (c' : Ct) (h : ρ[i]? = some (Sl.ow p c)) : (setCt ρ i c')[i]? = some (Sl.ow p c') := by
  unfold setCt
  rw [h]
  exact List.getElem?_set_self (List.getElem?_eq_some_iff.mp h).1
theorem wb_length : ∀ (vs : List Va) (os : List Sl) (ρ : Rho), (wb vs os ρ).length = ρ.length
  | [], os, ρ => by rw [wb_nil]
  | .pu d :: vs, [], ρ => rfl
  | .rf i :: vs, [], ρ => rfl
  | .pu d :: vs, o :: os, ρ => by rw [wb_pu]; exact wb_length vs os ρ
  | .rf i :: vs, .ow p c :: os, ρ => by rw [wb_rf, wb_length vs os, setCt_length]
  | .rf i :: vs, .no :: os, ρ => wb_length vs os ρ
  | .rf i :: vs, .pu _ :: os, ρ => wb_length vs os ρ
theorem wb_out {j : Nat} : ∀ (vs : List Va) (os : List Sl) (ρ : Rho), j ∉ rfs vs → (wb vs os ρ)[j]? = ρ[j]?
  | [], os, ρ, _ => by rw [wb_nil]
  | .pu d :: vs, [], ρ, _ => rfl
  | .rf i :: vs, [], ρ, _ => rfl
  | .pu d :: vs, o :: os, ρ, h => by rw [wb_pu]; exact wb_out vs os ρ h
  | .rf i :: vs, .ow p c :: os, ρ, h => by
    rw [rfs_rf, List.mem_cons, not_or] at h
    rw [wb_rf, wb_out vs os _ h.2, setCt_ne ρ c (Ne.symm h.1)]
  | .rf i :: vs, .no :: os, ρ, h => wb_out vs os ρ fun q => h (by rw [rfs_rf]; exact List.mem_cons_of_mem _ q)
  | .rf i :: vs, .pu _ :: os, ρ, h => wb_out vs os ρ fun q => h (by rw [rfs_rf]; exact List.mem_cons_of_mem _ q)
theorem mem_rfs : ∀ {vs : List Va} {j : Nat}, j ∈ rfs vs ↔ ∃ n : Nat, vs[n]? = some (Va.rf j)
  | [], j => by simp
  | .pu d :: vs, j => by
    rw [rfs_pu, mem_rfs]
    constructor
    · rintro ⟨n, h⟩; exact ⟨n + 1, by simpa using h⟩
    · rintro ⟨n, h⟩
      cases n with
      | zero => simp at h
      | succ n => exact ⟨n, by simpa using h⟩
  | .rf i :: vs, j => by
    rw [rfs_rf, List.mem_cons, mem_rfs]
    constructor
    · rintro (rfl | ⟨n, h⟩)
      · exact ⟨0, rfl⟩
      · exact ⟨n + 1, by simpa using h⟩
    · rintro ⟨n, h⟩
      cases n with
      | zero => simp at h; exact .inl h.symm
      | succ n => exact .inr ⟨n, by simpa using h⟩
theorem wb_in {j : Nat} {p q : Bool} {c c' : Ct} : ∀ {vs : List Va} {os : List Sl} {ρ : Rho} {n : Nat}, (rfs vs).Nodup → vs[n]? = some (Va.rf j) → os[n]? = some (Sl.ow q c') → ρ[j]? = some (Sl.ow p c) → (wb vs os ρ)[j]? = some (Sl.ow p c')
  | [], _, _, _, _, h, _, _ => by simp at h
  | _ :: _, [], _, _, _, _, h, _ => by simp at h
  | .pu d :: vs, o :: os, ρ, n, nd, h1, h2, h3 => by
    rw [wb_pu]
    cases n with
    | zero => simp at h1
    | succ n => exact wb_in (n := n) (by simpa using nd) (by simpa using h1) (by simpa using h2) h3
  | .rf i :: vs, o :: os, ρ, n, nd, h1, h2, h3 => by
    rw [rfs_rf, List.nodup_cons] at nd
    cases n with
    | zero =>
      simp at h1 h2
      subst h1 h2
      rw [wb_rf, wb_out vs os _ nd.1]
      exact setCt_eq c' h3
    | succ n =>
      have hj : j ∈ rfs vs := mem_rfs.mpr ⟨n, by simpa using h1⟩
      have hij : i ≠ j := fun e => nd.1 (by rw [e]; exact hj)
      cases o with
      | ow p' c1 =>
        rw [wb_rf]
        exact wb_in (n := n) nd.2 (by simpa using h1) (by simpa using h2) (by rw [setCt_ne ρ c1 hij]; exact h3)
      | no => exact wb_in (vs := vs) (os := os) (ρ := ρ) (n := n) nd.2 (by simpa using h1) (by simpa using h2) h3
      | pu d => exact wb_in (vs := vs) (os := os) (ρ := ρ) (n := n) nd.2 (by simpa using h1) (by simpa using h2) h3
section
variable {K : PySem.W.Frag} {G : Gm} {Z : Hp} {ρ : Rho} {σ : L2.St} {H : Hp} {vs : List V} {vas : List Va} {as outs : List Sl}
theorem argsOf_get : ∀ {vas : List Va} {as : List Sl} {i : Nat}, argsOf ρ vas = some as → (∀ va, vas[i]? = some va → ∃ s, argOf ρ va = some s ∧ as[i]? = some s) ∧ (∀ s, as[i]? = some s → ∃ va, vas[i]? = some va ∧ argOf ρ va = some s)
  | [], as, i, h => by cases h; simp
  | a :: vas, as, i, h => by
    unfold argsOf at h
    split at h
    · rename_i s r h1 h2
      cases h
      cases i with
      | zero => exact ⟨fun va q => ⟨s, by simp at q; subst q; exact ⟨h1, rfl⟩⟩, fun s' q => ⟨a, rfl, by simp at q; subst q; exact h1⟩⟩
      | succ i =>
        obtain ⟨q1, q2⟩ := argsOf_get (i := i) h2
        exact ⟨fun va q => by obtain ⟨s', e1, e2⟩ := q1 va (by simpa using q); exact ⟨s', e1, by simpa using e2⟩, fun s' q => by obtain ⟨va, e1, e2⟩ := q2 s' (by simpa using q); exact ⟨va, by simpa using e1, e2⟩⟩
    · cases h
theorem vasR_get (r : VasR K Z ρ σ H vs vas) {i : Nat} {va : Va} (h : vas[i]? = some va) : ∃ v, vs[i]? = some v ∧ VaR K Z ρ σ H v va := by
  have key : ∀ {l₁ : List V} {l₂ : List Va} {i : Nat}, Paired (VaR K Z ρ σ H) l₁ l₂ → l₂[i]? = some va → ∃ v, l₁[i]? = some v ∧ VaR K Z ρ σ H v va := by
    intro l₁ l₂ i r
    induction r generalizing i with
    | nil => intro h; simp at h
    | cons h1 h2 ih =>
      intro h
      cases i with
      | zero => simp at h; subst h; exact ⟨_, rfl, h1⟩
      | succ i => obtain ⟨v, q1, q2⟩ := ih (by simpa using h); exact ⟨v, by simpa using q1, q2⟩
  exact key r h
theorem argsOf_length : ∀ {vas : List Va} {as : List Sl}, argsOf ρ vas = some as → as.length = vas.length
  | [], _, h => by cases h; rfl
  | a :: vas, _, h => by
    unfold argsOf at h
    split at h
    · cases h; simp [argsOf_length ‹_›]
    · cases h
theorem argOf_pu' {va : Va} {d : D} (h : argOf ρ va = some (.pu d)) : va = .pu d := by
  cases va with
  | pu d' => cases h; rfl
  | rf i =>
    unfold argOf at h
    split at h
    · cases ‹Va.rf i = _›
    · split at h
      · cases h
      · cases h
theorem argOf_ow {va : Va} {p : Bool} {c : Ct} (h : argOf ρ va = some (.ow p c)) : p = true ∧ ∃ i q, va = .rf i ∧ ρ[i]? = some (.ow q c) := by
  cases va with
  | pu d' => cases h
  | rf i =>
    unfold argOf at h
    split at h
    · cases h
    · rename_i j e
      cases e
      split at h
      · rename_i q c' hr
        cases h
        exact ⟨rfl, i, q, rfl, hr⟩
      · cases h
theorem argOf_no {va : Va} : argOf ρ va ≠ some .no := by
  intro h
  cases va with
  | pu d' => cases h
  | rf i =>
    unfold argOf at h
    split at h
    · cases h
    · split at h
      · cases h
      · cases h
theorem nodup_rfs : ∀ {vas : List Va} {m n j : Nat}, (rfs vas).Nodup → vas[m]? = some (Va.rf j) → vas[n]? = some (Va.rf j) → m = n
  | [], m, n, j, _, h, _ => by simp at h
  | .pu d :: vas, m, n, j, nd, h1, h2 => by
    cases m with
    | zero => simp at h1
    | succ m =>
      cases n with
      | zero => simp at h2
      | succ n => exact congrArg (· + 1) (nodup_rfs (vas := vas) (j := j) (by simpa using nd) (by simpa using h1) (by simpa using h2))
  | .rf i :: vas, m, n, j, nd, h1, h2 => by
    rw [rfs_rf, List.nodup_cons] at nd
    cases m with
    | zero =>
      cases n with
      | zero => rfl
      | succ n =>
        simp at h1
        subst h1
        exact absurd (mem_rfs.mpr ⟨n, by simpa using h2⟩) nd.1
    | succ m =>
      cases n with
      | zero =>
        simp at h2
        subst h2
        exact absurd (mem_rfs.mpr ⟨m, by simpa using h1⟩) nd.1
      | succ n => exact congrArg (· + 1) (nodup_rfs (vas := vas) (j := j) nd.2 (by simpa using h1) (by simpa using h2))
theorem args_of (S : Sim K G Z ρ σ H) (r : VasR K Z ρ σ H vs vas) (h : argsOf ρ vas = some as) (nd : (rfs vas).Nodup) : ArgsR K Z H vs as := by
  refine ⟨?_, fun i e => ?_, fun i d e => ?_, fun i p c e => ?_, fun i j p q c d n e1 e2 => ?_⟩
  · rw [Paired.length r, argsOf_length h]
  · obtain ⟨va, _, q⟩ := (argsOf_get (i := i) h).2 _ e
    exact argOf_no q
  · obtain ⟨va, q1, q2⟩ := (argsOf_get (i := i) h).2 _ e
    have e' := argOf_pu' q2
    subst e'
    exact vasR_get r q1
  · obtain ⟨va, q1, q2⟩ := (argsOf_get (i := i) h).2 _ e
    obtain ⟨rfl, j, q, rfl, hr⟩ := argOf_ow q2
    obtain ⟨v, h1, h2⟩ := vasR_get r q1
    obtain ⟨a, o, h3, h4, h5, h6, _⟩ := S.ow j q c hr
    have h2 : σ[j]? = some (some v) := h2
    rw [h3] at h2
    cases h2
    exact ⟨rfl, a, o, h1, h4, h5, h6⟩
  · obtain ⟨va, q1, q2⟩ := (argsOf_get (i := i) h).2 _ e1
    obtain ⟨_, i', p', rfl, hr⟩ := argOf_ow q2
    obtain ⟨vb, q3, q4⟩ := (argsOf_get (i := j) h).2 _ e2
    obtain ⟨_, j', p'', rfl, hr'⟩ := argOf_ow q4
    obtain ⟨v, h1, h2⟩ := vasR_get r q1
    obtain ⟨v', h3, h4⟩ := vasR_get r q3
    have hij : i' ≠ j' := fun e => by subst e; exact n (nodup_rfs nd q1 q3)
    rw [h1, h3]
    intro e
    cases e
    have h2 : σ[i']? = some (some v) := h2
    have h4 : σ[j']? = some (some v) := h4
    exact S.ne i' j' _ _ _ _ hij hr hr' (h2.trans h4.symm)
theorem Sim.after (S : Sim K G Z ρ σ H) (r : VasR K Z ρ σ H vs vas) (h : argsOf ρ vas = some as) (nd : (rfs vas).Nodup) {Z' H' : Hp} (A : After K Z H vs as outs Z' H') : Sim K G Z' (wb vas outs ρ) σ H' := by
  -- what stands at a lent slot
  have lent : ∀ {n j : Nat} {p : Bool} {c : Ct} {a : Addr}, vas[n]? = some (Va.rf j) → ρ[j]? = some (Sl.ow p c) → σ[j]? = some (some (V.ref a)) → as[n]? = some (Sl.ow true c) ∧ vs[n]? = some (V.ref a) := fun {n j p c a} h1 h2 h3 => by
    obtain ⟨s, q1, q2⟩ := (argsOf_get (i := n) h).1 _ h1
    obtain ⟨v, q3, q4⟩ := vasR_get r h1
    have q4 : σ[j]? = some (some v) := q4
    rw [h3] at q4
    cases q4
    have q5 : argOf ρ (.rf j) = some (.ow true c) := by unfold argOf; dsimp only; rw [h2]
    rw [q5] at q1
    cases q1
    exact ⟨q2, q3⟩
  have lb : ∀ {a : Addr}, lentBy vs as a → ∃ (j : Nat) (p : Bool) (c : Ct), ρ[j]? = some (Sl.ow p c) ∧ σ[j]? = some (some (V.ref a)) ∧ j ∈ rfs vas := fun {a} ⟨n, p, c, h1, h2⟩ => by
    obtain ⟨va, q1, q2⟩ := (argsOf_get (i := n) h).2 _ h1
    obtain ⟨_, j, p', rfl, hr⟩ := argOf_ow q2
    obtain ⟨v, q3, q4⟩ := vasR_get r q1
    rw [h2] at q3
    cases q3
    exact ⟨j, p', c, hr, q4, mem_rfs.mpr ⟨n, q1⟩⟩
  have get : ∀ {j : Nat} {s : Sl}, (wb vas outs ρ)[j]? = some s → (j ∉ rfs vas ∧ ρ[j]? = some s) ∨ (∃ n p c a o c', vas[n]? = some (Va.rf j) ∧ ρ[j]? = some (Sl.ow p c) ∧ σ[j]? = some (some (V.ref a)) ∧ s = .ow p c' ∧ H' a = some o ∧ CtR K Z' o c' ∧ Z' a = none) := fun {j s} e => by
    by_cases hj : j ∈ rfs vas
    · obtain ⟨n, hn⟩ := mem_rfs.mp hj
      obtain ⟨s', q1, q2⟩ := (argsOf_get (i := n) h).1 _ hn
      have hex : ∃ p c, ρ[j]? = some (Sl.ow p c) := by
        unfold argOf at q1
        dsimp only at q1
        split at q1
        · exact ⟨_, _, ‹_›⟩
        · cases q1
      obtain ⟨p, c, hr⟩ := hex
      obtain ⟨a, o0, h3, _⟩ := S.ow j p c hr
      obtain ⟨l1, l2⟩ := lent hn hr h3
      obtain ⟨o, c', h4, h5, h6, h7⟩ := A.outs n true c a l1 l2
      rw [wb_in nd hn h4 hr] at e
      cases e
      exact .inr ⟨n, p, c, a, o, c', hn, hr, h3, rfl, h5, h6, h7⟩
    · rw [wb_out vas outs ρ hj] at e
      exact .inl ⟨hj, e⟩
  refine ⟨S.zz.trans A.z, A.zh, fun a o e l => ?_, fun a o e => ?_, fun i d e => ?_, fun i p c e => ?_, fun i j p q c d n e1 e2 => ?_, fun i a e => ?_, by rw [wb_length]; exact S.len⟩
  · refine A.fr a o (S.fr a o e l) fun q => ?_
    obtain ⟨j, p, c, h1, h2, _⟩ := lb q
    obtain ⟨b, _, h3, _, _, _, h4, h5⟩ := S.ow j p c h1
    rw [h2] at h3
    cases h3
    cases p with
    | true => exact l (h4 rfl)
    | false => rw [h5 rfl] at e; cases e
  · exact (A.n a o e).elim (fun q => S.nw a o q) fun q => .inr (S.freshIn q)
  · rcases get e with ⟨_, e⟩ | ⟨_, _, _, _, _, _, _, _, _, e', _⟩
    · obtain ⟨v, q, r'⟩ := S.pu i d e
      exact ⟨v, q, r'.mono A.z⟩
    · cases e'
  · rcases get e with ⟨hi, e⟩ | ⟨n, p', c0, a, o, c', hn, hr, h3, e', h4, h5, h6⟩
    · obtain ⟨a, o, h1, h2, h3, h4, h5⟩ := S.ow i p c e
      refine ⟨a, o, h1, A.fr a o h2 fun q => ?_, h3.mono A.z, ?_, h5⟩
      · obtain ⟨j, p', c', q1, q2, q3⟩ := lb q
        have hij : i ≠ j := fun e' => by subst e'; exact hi q3
        exact S.ne i j _ _ _ _ hij e q1 (h1.trans q2.symm)
      · cases q : Z' a with
        | none => rfl
        | some u =>
          rcases A.n a u q with w | w
          · rw [h4] at w; cases w
          · rw [h2] at w; cases w
    · cases e'
      obtain ⟨a', _, h7, _, _, _, h8⟩ := S.ow i _ _ hr
      rw [h3] at h7
      cases h7
      exact ⟨a, o, h3, h4, h5, h6, h8⟩
  · have ex : ∀ {j : Nat} {p : Bool} {c : Ct}, (wb vas outs ρ)[j]? = some (Sl.ow p c) → ∃ p' c', ρ[j]? = some (Sl.ow p' c') := fun {j p c} e => by
      rcases get e with ⟨_, e⟩ | ⟨_, p', c', _, _, _, _, hr, _⟩
      · exact ⟨p, c, e⟩
      · exact ⟨p', c', hr⟩
    obtain ⟨_, _, x1⟩ := ex e1
    obtain ⟨_, _, x2⟩ := ex e2
    exact S.ne i j _ _ _ _ n x1 x2
  · obtain ⟨q, c, hc⟩ := S.pin i a e
    refine ⟨q, ?_⟩
    by_cases hi : i ∈ rfs vas
    · obtain ⟨n, hn⟩ := mem_rfs.mp hi
      obtain ⟨l1, l2⟩ := lent hn hc q
      obtain ⟨o, c', h4, _⟩ := A.outs n true c a l1 l2
      exact ⟨c', wb_in nd hn h4 hc⟩
    · exact ⟨c, by rw [wb_out vas outs ρ hi]; exact hc⟩
theorem Sim.resAfter (S : Sim K G Z ρ σ H) {Z' H' : Hp} {v : V} {x : Rs} (hr : ResG K Z' H H' v x) {ρ' : Rho} (S' : Sim K G Z' ρ' σ H') (hk : ∀ (i : Nat) p c, ρ'[i]? = some (Sl.ow p c) → ∃ p' c', ρ[i]? = some (Sl.ow p' c')) : RsR K G Z' ρ' σ H' v x := by
  cases x with
  | pu d => exact hr
  | nw c =>
    obtain ⟨a, o, e, n, z, ho, cr⟩ := hr
    refine ⟨a, o, e, ho, cr, z, S.freshIn n, fun i p c' hi q => ?_⟩
    obtain ⟨p', c'', hi'⟩ := hk i p c' hi
    obtain ⟨a', o', q', ho', _⟩ := S.ow i p' c'' hi'
    rw [q] at q'
    cases q'
    rw [n] at ho'
    cases ho'
theorem wb_kind : ∀ {vas : List Va} {outs : List Sl} {ρ : Rho} {i : Nat} {p : Bool} {c : Ct}, (wb vas outs ρ)[i]? = some (Sl.ow p c) → ∃ p' c', ρ[i]? = some (Sl.ow p' c')
  | [], os, ρ, i, p, c, h => by rw [wb_nil] at h; exact ⟨p, c, h⟩
  | .pu d :: vs, [], ρ, i, p, c, h => ⟨p, c, h⟩
  | .rf j :: vs, [], ρ, i, p, c, h => ⟨p, c, h⟩
  | .pu d :: vs, o :: os, ρ, i, p, c, h => by rw [wb_pu] at h; exact wb_kind h
  | .rf j :: vs, .no :: os, ρ, i, p, c, h => wb_kind (vas := vs) (outs := os) h
  | .rf j :: vs, .pu _ :: os, ρ, i, p, c, h => wb_kind (vas := vs) (outs := os) h
  | .rf j :: vs, .ow p1 c1 :: os, ρ, i, p, c, h => by
    rw [wb_rf] at h
    obtain ⟨p', c', h'⟩ := wb_kind h
    unfold setCt at h'
    split at h'
    · rename_i q c2 hq
      by_cases e : j = i
      · subst e; exact ⟨q, c2, hq⟩
      · rw [List.getElem?_set_ne e] at h'; exact ⟨p', c', h'⟩
    · exact ⟨p', c', h'⟩
end
section
variable {X : Cx} {G : Gm} {B : Wish} {CX : CXT} {k n : Nat} {f : Addr} {fd : FuncData} {ps : List Str} {g : Fn} {E : XK} {x : Str} {p pos : Pos} {e : Expr} {es : List Expr} {oas : O (List Va)}
/-- what a callee's exception is wished to do here -/
theorem run_call {K : PySem.W.Frag} {σ : L2.St} {H : Hp} {Q : VK} (hB : ∀ x ρ Z σ H, B x ρ Z σ H → ∀ cls d, XnR K Z x cls d H → E cls d H) (hnd : True) (hl : ∀ ρ vas ρ1, oas ρ = .ok vas ρ1 → vas.length = n)
    (w : Run K G B (RsR K G) (oCall g oas) σ H Q) : Run K G B (VasR K) oas σ H fun vs H1 => spD K n g vs H1 Q E := by
  obtain ⟨Z, ρ, S, p⟩ := w
  refine ⟨Z, ρ, S, ?_⟩
  cases ho : oas ρ with
  | st => unfold oCall at p; rw [ho] at p; exact p.elim
  | ex y ρ1 => unfold oCall at p; rw [ho] at p; exact p
  | ok vas ρ1 =>
    unfold oCall at p
    rw [ho] at p
    intro vs Z1 H1 e1 S1 r1
    have p1 : Post K G B (RsR K G) σ Z (call1 g vas ρ1) Q := p
    have r1 : VasR K Z1 ρ1 σ H1 vs vas := r1
    unfold call1 at p1
    split at p1
    · rename_i as ha
      split at p1
      · rename_i nd
        refine ⟨by rw [Paired.length r1]; exact hl ρ vas ρ1 ho, Z1, as, S1.zh, args_of S1 r1 ha nd, ?_⟩
        cases hg : g as with
        | st => rw [hg] at p1; exact p1
        | ret r outs =>
          rw [hg] at p1
          intro v Z' H' A hr
          have S2 := S1.after r1 ha nd A
          exact p1 v Z' H' (e1.trans A.z) S2 (S1.resAfter hr S2 fun i p c h => wb_kind h)
        | exc y outs =>
          rw [hg] at p1
          intro cls d Z' H' A hx
          exact hB _ _ _ _ _ (p1 Z' H' (e1.trans A.z) (S1.after r1 ha nd A)) cls d hx
      · exact p1.elim
    · exact p1.elim
/-- the number of arguments -/
def Many {α : Type} (n : Nat) (o : O (List α)) : Prop := ∀ ρ as ρ1, o ρ = .ok as ρ1 → as.length = n
theorem many_nil {α : Type} : Many 0 (oNil : O (List α)) := fun ρ as ρ1 h => by cases h; rfl
theorem many_cons {α : Type} {m : Nat} {o : O α} {o' : O (List α)} (h : Many m o') : Many (m + 1) (oCons o o') := fun ρ as ρ1 q => by
  unfold oCons at q
  cases h1 : o ρ with
  | st => rw [h1] at q; cases q
  | ex x ρ2 => rw [h1] at q; cases q
  | ok a ρ2 =>
    rw [h1] at q
    cases h2 : o' ρ2 with
    | st => simp [h2] at q
    | ex x ρ3 => simp [h2] at q
    | ok as' ρ3 =>
      simp [h2] at q
      obtain ⟨rfl, rfl⟩ := q
      simp [h ρ2 as' ρ3 h2]
theorem rd_call (F : FnOk X.prog X.w X.K X.mg X.base CX0 k f fd ps (spD X.K n g)) (hr : Room k X.A) (hg : Gl X x) (hm : X.mg x = some (.ref f)) (hk : PySem.W.keepIn X.K (.ref f) = true) (hb : Binds X.K fd ps [])
    (ha : AD X G noB (e :: es) oas) (hl : Many n oas) (hdb : (x == ("__debug__" : Str)) = false := by decide) (he : starEach (e :: es) X.env = (false, eval e X.env) :: starEach es X.env := by rfl) (hpl : (backTo pos (starEach es X.env)).any (·.1) = false := by rfl) :
    RD X G noB (.Call (.Name x p) (e :: es) [] pos) (oCall g oas) :=
  pe_imp (pe_call F hr hg hm hk hb .nil pass0 ha hdb he hpl) fun σ H Q w => by
    have q := run_call (E := E0) (n := n) (fun _ _ _ _ _ h => h.elim) trivial hl w
    unfold tCall
    simp only [List.append_nil]
    exact q
theorem rd_call0 (F : FnOk X.prog X.w X.K X.mg X.base CX0 k f fd ps (spD X.K 0 g)) (hr : Room k X.A) (hg : Gl X x) (hm : X.mg x = some (.ref f)) (hk : PySem.W.keepIn X.K (.ref f) = true) (hb : Binds X.K fd ps [])
    (hdb : (x == ("__debug__" : Str)) = false := by decide) : RD X G noB (.Call (.Name x p) [] [] pos) (oCall g oNil) :=
  pe_imp (pe_call0 F hr hg hm hk hb .nil pass0 hdb) fun σ H Q w => by
    have q := run_call (E := E0) (n := 0) (fun _ _ _ _ _ h => h.elim) trivial many_nil w
    obtain ⟨Z, ρ, S, p⟩ := q
    exact p [] Z H (.refl _) S .nil
end
end Ow
namespace Ow
open PySem L2
/-! ### dicts -/
def keyOf : D → Option Key
  | .int i => some (.inl i)
  | .str x => some (.inr x)
  | _ => none
def keysOf : List D → Option (List Key)
  | [] => some []
  | d :: ds => match keyOf d, keysOf ds with
    | some k, some ks => some (k :: ks)
    | _, _ => none
def tkOf : D → Option (List Key)
  | .tuple ds => keysOf ds
  | _ => none
section
variable {κ : Type} [DecidableEq κ]
def valD (kvs : List (κ × D)) (k : κ) : Option D := (kvs.find? fun kv => decide (kv.1 = k)).map (·.2)
def putD (kvs : List (κ × D)) (k : κ) (v : D) : List (κ × D) :=
  if (kvs.any fun kv => decide (kv.1 = k)) = true then kvs.map (fun kv => if kv.1 = k then (kv.1, v) else kv) else kvs ++ [(k, v)]
theorem kv_val {K : PySem.W.Frag} {Z : Hp} {kvs : List (κ × V)} {eds : List (κ × D)} (r : KvR K Z kvs eds) (k : κ) : (valD eds k = none ∧ valV kvs k = none) ∨ ∃ d v, valD eds k = some d ∧ valV kvs k = some v ∧ Rp K Z v d := by
  induction r with
  | nil => exact .inl ⟨rfl, rfl⟩
  | @cons p q ps qs h1 h2 ih =>
    obtain ⟨e, r1⟩ := h1
    by_cases hk : p.1 = k
    · refine .inr ⟨q.2, p.2, ?_, ?_, r1⟩
      · unfold valD; rw [List.find?_cons]; simp [← e, hk]
      · unfold valV; rw [List.find?_cons]; simp [hk]
    · have e1 : valD (q :: qs) k = valD qs k := by unfold valD; rw [List.find?_cons]; simp [← e, hk]
      have e2 : valV (p :: ps) k = valV ps k := by unfold valV; rw [List.find?_cons]; simp [hk]
      rw [e1, e2]
      exact ih
theorem kv_any {K : PySem.W.Frag} {Z : Hp} {kvs : List (κ × V)} {eds : List (κ × D)} (r : KvR K Z kvs eds) (k : κ) : (kvs.any fun kv => decide (kv.1 = k)) = (eds.any fun kv => decide (kv.1 = k)) := by
  induction r with
  | nil => rfl
  | cons h1 h2 ih => rw [List.any_cons, List.any_cons, ih, h1.1]
theorem kv_upd {K : PySem.W.Frag} {Z : Hp} (k : κ) {v : V} {d : D} (rv : Rp K Z v d) {kvs : List (κ × V)} {eds : List (κ × D)} (r : KvR K Z kvs eds) : KvR K Z (kvs.map (fun kv => if kv.1 = k then (kv.1, v) else kv)) (eds.map (fun kv => if kv.1 = k then (kv.1, d) else kv)) := by
  induction r with
  | nil => exact .nil
  | @cons p q ps qs h1 h2 ih =>
    refine .cons ?_ ih
    obtain ⟨p1, p2⟩ := p
    obtain ⟨q1, q2⟩ := q
    obtain ⟨e, r1⟩ := h1
    have e : p1 = q1 := e
    subst e
    dsimp only
    split
    · exact ⟨rfl, rv⟩
    · exact ⟨rfl, r1⟩
theorem kv_app {K : PySem.W.Frag} {Z : Hp} (k : κ) {v : V} {d : D} (rv : Rp K Z v d) {kvs : List (κ × V)} {eds : List (κ × D)} (r : KvR K Z kvs eds) : KvR K Z (kvs ++ [(k, v)]) (eds ++ [(k, d)]) := by
  induction r with
  | nil => exact .cons ⟨rfl, rv⟩ .nil
  | cons h1 h2 ih => exact .cons h1 ih
theorem kv_put {K : PySem.W.Frag} {Z : Hp} {kvs : List (κ × V)} {eds : List (κ × D)} (r : KvR K Z kvs eds) (k : κ) {v : V} {d : D} (rv : Rp K Z v d) : KvR K Z (putK kvs k v) (putD eds k d) := by
  unfold putK putD
  rw [kv_any r k]
  split
  · exact kv_upd k rv r
  · exact kv_app k rv r
theorem kv_length {K : PySem.W.Frag} {Z : Hp} {kvs : List (κ × V)} {eds : List (κ × D)} (r : KvR K Z kvs eds) : kvs.length = eds.length := Paired.length r
end
theorem keyOf_v {K : PySem.W.Frag} {Z : Hp} {v : V} {d : D} {k : Key} (r : Rp K Z v d) (h : keyOf d = some k) : v = kV k := by
  unfold keyOf at h
  split at h
  · cases h; cases r; rfl
  · cases h; cases r; rfl
  · cases h
theorem keysOf_v {K : PySem.W.Frag} {Z : Hp} : ∀ {vs : List V} {ds : List D} {ks : List Key}, RpAll K Z vs ds → keysOf ds = some ks → vs = ks.map kV
  | _, [], _, r, h => by cases h; cases r; rfl
  | _, d :: ds, ks, r, h => by
    unfold keysOf at h
    split at h
    · cases h
      cases r with
      | cons r1 r2 => rw [keyOf_v r1 ‹_›, keysOf_v r2 ‹_›]; rfl
    · cases h
/-- a look: none where the key is of another kind -/
def dGet : Ct → D → Option (Option D)
  | .dk kvs, k => (keyOf k).map (valD kvs)
  | .dt kvs, k => (tkOf k).map (valD kvs)
  | _, _ => none
def dPut : Ct → D → D → Option Ct
  | .dk kvs, k, d => if kvs.length < 16000000 then (keyOf k).map fun k => .dk (putD kvs k d) else none
  | .dt kvs, k, d => if kvs.length < 16000000 then (tkOf k).map fun k => .dt (putD kvs k d) else none
  | _, _, _ => none
section
variable {K : PySem.W.Frag} {Z H : Hp} {a : Addr} {o : HO} {c : Ct} {y : V} {k : D}
theorem dGet_v (ho : H a = some o) (e : Same Z H) (r : CtR K Z o c) (ry : Rp K Z y k) {x : Option D} (h : dGet c k = some x) : ∃ xv : Option V, DGet H a y xv ∧ ((x = none ∧ xv = none) ∨ ∃ d v, x = some d ∧ xv = some v ∧ Rp K Z v d) := by
  unfold dGet at h
  split at h
  · rename_i kvs
    cases q : keyOf k with
    | none => rw [q] at h; cases h
    | some kk =>
      rw [q] at h
      cases h
      cases o with
      | dK vs => rw [keyOf_v ry q]; exact ⟨_, DGet.k ho, (kv_val (show KvR K Z vs kvs from r) kk)⟩
      | _ => exact r.elim
  · rename_i kvs
    cases q : tkOf k with
    | none => rw [q] at h; cases h
    | some kk =>
      rw [q] at h
      cases h
      unfold tkOf at q
      split at q
      · rename_i ds
        cases ry with
        | tup h1 h2 =>
          rw [keysOf_v h2 q] at h1
          cases o with
          | dT vs => exact ⟨_, DGet.t ho (e _ _ h1), (kv_val (show KvR K Z vs kvs from r) kk)⟩
          | _ => exact r.elim
      · cases q
  · cases h
theorem dPut_v (ho : H a = some o) (e : Same Z H) (r : CtR K Z o c) (ry : Rp K Z y k) {d : D} {v : V} (rv : Rp K Z v d) {c' : Ct} (h : dPut c k d = some c') : ∃ o', DPut H a y v (upd H a o') ∧ CtR K Z o' c' := by
  unfold dPut at h
  split at h
  · rename_i kvs
    split at h
    · rename_i hl
      cases q : keyOf k with
      | none => rw [q] at h; cases h
      | some kk =>
        rw [q] at h
        cases h
        cases o with
        | dK vs =>
          rw [keyOf_v ry q]
          have r' : KvR K Z vs kvs := r
          exact ⟨_, DPut.k ho (by rw [kv_length r']; exact lim_lt hl), kv_put r' kk rv⟩
        | _ => exact r.elim
    · cases h
  · rename_i kvs
    split at h
    · rename_i hl
      cases q : tkOf k with
      | none => rw [q] at h; cases h
      | some kk =>
        rw [q] at h
        cases h
        unfold tkOf at q
        split at q
        · rename_i ds
          cases ry with
          | tup h1 h2 =>
            rw [keysOf_v h2 q] at h1
            cases o with
            | dT vs =>
              have r' : KvR K Z vs kvs := r
              exact ⟨_, DPut.t ho (e _ _ h1) (by rw [kv_length r']; exact lim_lt hl), kv_put r' kk rv⟩
            | _ => exact r.elim
        · cases q
    · cases h
  · cases h
end
def isDic (s : Option Sl) : Bool := match s with
  | some (.ow _ (.dk _)) => true
  | some (.ow _ (.dt _)) => true
  | _ => false
def vaDic (ρ : Rho) : Va → Bool
  | .rf i => isDic ρ[i]?
  | _ => false
@[simp] theorem vaDic_pu (ρ : Rho) (d : D) : vaDic ρ (.pu d) = false := rfl
def ctOf (ρ : Rho) : Va → Option Ct
  | .rf i => match ρ[i]? with
    | some (.ow _ c) => some c
    | _ => none
  | _ => none
/-! .. {} -/
def oNewK : O Rs := fun ρ => .ok (.nw (.dk [])) ρ
def oNewT : O Rs := fun ρ => .ok (.nw (.dt [])) ρ
section
variable {X : Cx} {G : Gm} {B : Wish} {pos : Pos}
theorem rd_newK : RD X G B (.Dict [] [] pos) oNewK := pe_imp pe_dnewK fun σ H Q ⟨Z, ρ, S, p⟩ q hq =>
  p.fin S (.loose S.zh hq _) ⟨q, .dK [], rfl, hq, S.fresh hq, upd_same, (show KvR X.K Z [] [] from .nil)⟩
theorem rd_newT : RD X G B (.Dict [] [] pos) oNewT := pe_imp pe_dnewT fun σ H Q ⟨Z, ρ, S, p⟩ q hq =>
  p.fin S (.loose S.zh hq _) ⟨q, .dT [], rfl, hq, S.fresh hq, upd_same, (show KvR X.K Z [] [] from .nil)⟩
end
/-! .. a[b], a in b, whatever stands there -/
def dix1 (a b : Va) (ρ : Rho) : M Rs := match ctOf ρ a, rdV ρ b with
  | some c, some k => match dGet c k with
    | some (some d) => .ok (.pu d) ρ
    | _ => .st
  | _, _ => .st
def ixA1 (a b : Va) (ρ : Rho) : M Rs := if vaDic ρ a = true then dix1 a b ρ else bin1 fIx a b ρ
@[simp] theorem ixA1_pu (a : D) (b : Va) (ρ : Rho) : ixA1 (.pu a) b ρ = bin1 fIx (.pu a) b ρ := rfl
def oIxA (oa ob : O Va) : O Rs := fun ρ => (oa ρ).bind fun a ρ1 => (ob ρ1).bind fun b ρ2 => ixA1 a b ρ2
def din1 (neg : Bool) (a b : Va) (ρ : Rho) : M Rs := match rdV ρ a, ctOf ρ b with
  | some k, some c => match dGet c k with
    | some o => .ok (.pu (.bool (if neg then !o.isSome else o.isSome))) ρ
    | none => .st
  | _, _ => .st
def inA1 (neg : Bool) (a b : Va) (ρ : Rho) : M Rs := if vaDic ρ b = true then din1 neg a b ρ else bin1 (fIn neg) a b ρ
@[simp] theorem inA1_pu (neg : Bool) (a : Va) (b : D) (ρ : Rho) : inA1 neg a (.pu b) ρ = bin1 (fIn neg) a (.pu b) ρ := rfl
def oInA (neg : Bool) (oa ob : O Va) : O Rs := fun ρ => (oa ρ).bind fun a ρ1 => (ob ρ1).bind fun b ρ2 => inA1 neg a b ρ2
section
variable {X : Cx} {G : Gm} {B : Wish} {a b : Expr} {pos : Pos} {oa ob : O Va}
theorem ctOf_at {K : PySem.W.Frag} {Z : Hp} {ρ : Rho} {σ : St} {H : Hp} {v : V} {x : Va} {c : Ct} (S : Sim K G Z ρ σ H) {ρ' : Rho} {H' : Hp} (r : VaR K Z ρ' σ H' v x) (h : ctOf ρ x = some c) : ∃ ad o, v = .ref ad ∧ H ad = some o ∧ CtR K Z o c := by
  cases x with
  | pu d => cases h
  | rf i =>
    unfold ctOf at h
    dsimp only at h
    split at h
    · rename_i p c' hr
      cases h
      obtain ⟨ad, o, q, ho, rc, _⟩ := S.ow i p _ hr
      have r : σ[i]? = some (some v) := r
      rw [q] at r
      cases r
      exact ⟨ad, o, rfl, ho, rc⟩
    · cases h
/-- two operands, then one of two rules, as they turn out -/
theorem run_two {K : PySem.W.Frag} {R1 R2' : L2.R2} {f1 f2 : Va → Va → Rho → M Rs} {t : Rho → Va → Va → Bool} {σ : St} {H : Hp} {Q : VK}
    (h1 : ∀ σ Z H ρ x y a b Q, Sim K G Z ρ σ H → VaR K Z ρ σ H x a → VaR K Z ρ σ H y b → t ρ a b = true → Post K G B (RsR K G) σ Z (f1 a b ρ) Q → R1 x y H Q)
    (h2 : ∀ σ Z H ρ x y a b Q, Sim K G Z ρ σ H → VaR K Z ρ σ H x a → VaR K Z ρ σ H y b → t ρ a b = false → Post K G B (RsR K G) σ Z (f2 a b ρ) Q → R2' x y H Q)
    (w : Run K G B (RsR K G) (fun ρ => (oa ρ).bind fun a ρ1 => (ob ρ1).bind fun b ρ2 => if t ρ2 a b = true then f1 a b ρ2 else f2 a b ρ2) σ H Q) :
    tOp R1 (Run K G B (VaR K) oa) (Run K G B (VaR K) ob) σ H Q ∨ tOp R2' (Run K G B (VaR K) oa) (Run K G B (VaR K) ob) σ H Q := by
  obtain ⟨Z, ρ, S, p⟩ := w
  have p : Post K G B (RsR K G) σ Z ((oa ρ).bind fun a ρ1 => (ob ρ1).bind fun b ρ2 => if t ρ2 a b = true then f1 a b ρ2 else f2 a b ρ2) Q := p
  cases ha : oa ρ with
  | st => rw [ha] at p; exact p.elim
  | ex x ρ1 => rw [ha] at p; exact .inl ⟨Z, ρ, S, by rw [ha]; exact p⟩
  | ok a ρ1 =>
    rw [ha] at p
    have p : Post K G B (RsR K G) σ Z ((ob ρ1).bind fun b ρ2 => if t ρ2 a b = true then f1 a b ρ2 else f2 a b ρ2) Q := p
    cases hb : ob ρ1 with
    | st => rw [hb] at p; exact p.elim
    | ex x ρ2 =>
      rw [hb] at p
      refine .inl ⟨Z, ρ, S, ?_⟩
      rw [ha]
      intro x Z1 H1 e1 S1 r1
      refine ⟨Z1, ρ1, S1, ?_⟩
      rw [hb]
      exact fun Z2 H2 e2 S2 => p Z2 H2 (e1.trans e2) S2
    | ok b ρ2 =>
      rw [hb] at p
      have p : Post K G B (RsR K G) σ Z (if t ρ2 a b = true then f1 a b ρ2 else f2 a b ρ2) Q := p
      have mono : ∀ {Z1 : Hp} {m : M Rs}, Same Z Z1 → Post K G B (RsR K G) σ Z m Q → Post K G B (RsR K G) σ Z1 m Q := fun {Z1 m} e h => by
        cases m with
        | st => exact h
        | ok r ρ3 => exact fun v Z' H' e' => h v Z' H' (e.trans e')
        | ex x ρ3 => exact fun Z' H' e' => h Z' H' (e.trans e')
      cases ht : t ρ2 a b with
      | true =>
        rw [ht, if_pos rfl] at p
        refine .inl ⟨Z, ρ, S, ?_⟩
        rw [ha]
        intro x Z1 H1 e1 S1 r1
        refine ⟨Z1, ρ1, S1, ?_⟩
        rw [hb]
        intro y Z2 H2 e2 S2 r2
        exact h1 σ Z2 H2 ρ2 x y a b Q S2 (VaR.mono r1 e2) r2 ht (mono (e1.trans e2) p)
      | false =>
        rw [ht, if_neg Bool.false_ne_true] at p
        refine .inr ⟨Z, ρ, S, ?_⟩
        rw [ha]
        intro x Z1 H1 e1 S1 r1
        refine ⟨Z1, ρ1, S1, ?_⟩
        rw [hb]
        intro y Z2 H2 e2 S2 r2
        exact h2 σ Z2 H2 ρ2 x y a b Q S2 (VaR.mono r1 e2) r2 ht (mono (e1.trans e2) p)
theorem rd_ixA {k : Nat} (hr : Room k X.A) (ha : ED X G B a oa) (hb : ED X G B b ob) (hs : PlainIx b := by exact fun _ _ => rfl) (hs' : NoSl b := by exact fun _ _ => rfl) : RD X G B (.Subscript a b pos) (oIxA oa ob) := by
  refine pe_imp (pe_alt (pe_dget (hu_of hr) ha hb hs') (pe_ix ix_seq ha hb hs)) fun σ H Q w => ?_
  refine run_two (R1 := fun x y H Q => ∃ ad v, x = .ref ad ∧ DGet H ad y (some v) ∧ Q v H) (R2' := rIx X.K) (f1 := dix1) (f2 := bin1 fIx) (t := fun ρ a b => vaDic ρ a) ?_ ?_ w
  · intro σ Z H ρ x y a b Q S r1 r2 _ p
    unfold dix1 at p
    split at p
    · rename_i c kd hc hk
      split at p
      · rename_i d hd
        obtain ⟨ad, o, rfl, ho, rc⟩ := ctOf_at S r1 hc
        have rk : Rp X.K Z y kd := (S.rdb r2 hk).keptD fun ds e => by subst e; cases c <;> cases hd
        obtain ⟨xv, g, q⟩ := dGet_v ho S.zh rc rk hd
        rcases q with ⟨e, _⟩ | ⟨d', v, e, rfl, rv⟩
        · cases e
        · cases e
          exact ⟨ad, v, rfl, g, p.fin S (.refl S.zh) rv⟩
      · exact p.elim
    · exact p.elim
  · intro σ Z H ρ x y a b Q S r1 r2 _ p
    exact bin1_run binS_ix S r1 r2 p
theorem rd_inA {k : Nat} (hr : Room k X.A) (ha : ED X G B a oa) (hb : ED X G B b ob) (hm : behindInMarks .In b = false := by rfl) : RD X G B (.Compare a [.In] [b] pos) (oInA false oa ob) := by
  refine pe_imp (pe_alt (pe_cmp (pc_din (hu_of hr) ha hb) hm) (pe_cmpR op_inAll ha hb hm)) fun σ H Q w => ?_
  refine run_two (R1 := fun y x H Q => ∃ ad o, x = .ref ad ∧ DGet H ad y o ∧ Q (.bl o.isSome) H) (R2' := rInAll X.K false) (f1 := din1 false) (f2 := bin1 (fIn false)) (t := fun ρ a b => vaDic ρ b) ?_ ?_ w
  · intro σ Z H ρ y x a b Q S r1 r2 _ p
    unfold din1 at p
    split at p
    · rename_i kd c hk hc
      split at p
      · rename_i o hd
        obtain ⟨ad, ob, rfl, ho, rc⟩ := ctOf_at S r2 hc
        have rk : Rp X.K Z y kd := (S.rdb r1 hk).keptD fun ds e => by subst e; cases c <;> cases hd
        obtain ⟨xv, g, q⟩ := dGet_v ho S.zh rc rk hd
        refine ⟨ad, xv, rfl, g, ?_⟩
        rcases q with ⟨rfl, rfl⟩ | ⟨d', v, rfl, rfl, rv⟩
        · exact p.fin S (.refl S.zh) (.bl _)
        · exact p.fin S (.refl S.zh) (.bl _)
      · exact p.elim
    · exact p.elim
  · intro σ Z H ρ x y a b Q S r1 r2 _ p
    exact bin1_run binS_in S r1 r2 p
theorem rd_notinA {k : Nat} (hr : Room k X.A) (ha : ED X G B a oa) (hb : ED X G B b ob) (hm : behindInMarks .NotIn b = false := by rfl) : RD X G B (.Compare a [.NotIn] [b] pos) (oInA true oa ob) := by
  refine pe_imp (pe_alt (pe_cmp (pc_dnotin (hu_of hr) ha hb) hm) (pe_cmpR op_notInAll ha hb hm)) fun σ H Q w => ?_
  refine run_two (R1 := fun y x H Q => ∃ ad o, x = .ref ad ∧ DGet H ad y o ∧ Q (.bl (!o.isSome)) H) (R2' := rInAll X.K true) (f1 := din1 true) (f2 := bin1 (fIn true)) (t := fun ρ a b => vaDic ρ b) ?_ ?_ w
  · intro σ Z H ρ y x a b Q S r1 r2 _ p
    unfold din1 at p
    split at p
    · rename_i kd c hk hc
      split at p
      · rename_i o hd
        obtain ⟨ad, ob, rfl, ho, rc⟩ := ctOf_at S r2 hc
        have rk : Rp X.K Z y kd := (S.rdb r1 hk).keptD fun ds e => by subst e; cases c <;> cases hd
        obtain ⟨xv, g, q⟩ := dGet_v ho S.zh rc rk hd
        refine ⟨ad, xv, rfl, g, ?_⟩
        rcases q with ⟨rfl, rfl⟩ | ⟨d', v, rfl, rfl, rv⟩
        · exact p.fin S (.refl S.zh) (.bl _)
        · exact p.fin S (.refl S.zh) (.bl _)
      · exact p.elim
    · exact p.elim
  · intro σ Z H ρ x y a b Q S r1 r2 _ p
    exact bin1_run binS_in S r1 r2 p
theorem td_rdc {o : O Rs} {op : CmpOp} (h : RD X G B (.Compare a [op] [b] pos) o) (he : ∀ whole, isTrue (.Compare a [op] [b] pos) X.env whole = (do let v ← whole; standAt (Expr.Compare a [op] [b] pos).pos; holding [v] (truthy v)) := by intro _; rfl) : TD X G B (.Compare a [op] [b] pos) (oTst o) := td_rd h he
end
/-! .. d[k] = e, xs[i] = e -/
theorem ps_alt {X : Cx} {e : Stmt} {t t' : TS} (h : PS X e t) (h' : PS X e t') : PS X e (fun D σ H => t D σ H ∨ t' D σ H) := ⟨fun pins s σ H D I w => w.elim (h.run pins s σ H D I) (h'.run pins s σ H D I)⟩
def stD1 (k : Nat) (d i : D) (ρ : Rho) : Mo := match ρ[k]? with
  | some (.ow p c) => match dPut c i d with
    | some c' => .nx (ρ.set k (.ow p c'))
    | none => .st
  | _ => .st
def oStD (k : Nat) (ov oi : O D) : Os := fun ρ => (ov ρ).bindS fun d ρ1 => match ρ1[k]? with
  | some (.ow _ _) => (oi ρ1).bindS fun i ρ2 => stD1 k d i ρ2
  | _ => .st
def oStA (k : Nat) (ov oi : O D) : Os := fun ρ => if isDic ρ[k]? = true then oStD k ov oi ρ else oStL k ov oi ρ
section
variable {X : Cx} {G : Gm} {B : Wish} {e o ix : Expr} {pos pos' tpos npos : Pos} {x : Str}
theorem sd_stD (k : Nat) {kr : Nat} {ov oi : O D} (hr : Room kr X.A) (hv : PD X G B e ov) (hi : PD X G B ix oi)
    (hN : X.N[k]? = some x := by rfl) (hvis : Vis X.env.scope x := by first | exact Or.inl rfl | exact Or.inr (Or.inl rfl) | exact Or.inr (Or.inr rfl)) (hd : (x == ("__debug__" : Str)) = false := by decide)
    (hcd : (x == ("__classdict__" : Str)) = false := by decide) (hs : swapsWith e (some (.Subscript (.Name x npos) ix pos')) pos.line X.env = pure false := by rfl) : SD X G B (.Assign [.Subscript (.Name x npos) ix pos'] e pos) (oStD k ov oi) :=
  ps_imp (ps_dput (hu_of hr) (pe_var (i := k) hN hvis hd hcd) hi hv hs) fun D σ H w => runS_bind (C := fun v H1 => tVar k σ H1 fun x H2 => Run X.K G B (PuR X.K) oi σ H2 fun y H3 => ∃ a H4, x = .ref a ∧ DPut H3 a y v H4 ∧ D.nx σ H4) w fun v d ρ1 Z1 H1 S1 rv p1 => by
    split at p1
    · rename_i p c h
      obtain ⟨a, ob, q, ho, r1, z, _⟩ := S1.ow k _ _ h
      refine ⟨_, q, Z1, ρ1, S1, PostS.bind p1 fun iv di ρ2 Z2 H2 e2 S2 r2 p2 => ?_⟩
      unfold stD1 at p2
      split at p2
      · rename_i p' c' h'
        split at p2
        · rename_i c2 hc
          obtain ⟨a2, o2, q2, ho2, r2', z2, _⟩ := S2.ow k _ _ h'
          rw [q] at q2
          cases q2
          obtain ⟨o', g, rc⟩ := dPut_v ho2 S2.zh r2' r2 (Rp.mono rv e2) hc
          exact ⟨a, _, rfl, g, p2 σ Z2 _ (.refl _) (S2.write h' q rc)⟩
        · exact p2.elim
      · exact p2.elim
    · exact p1.elim
theorem sd_stA (k : Nat) {kr : Nat} {ov oi : O D} (hr : Room kr X.A) (hv : PD X G B e ov) (hi : PD X G B ix oi)
    (hN : X.N[k]? = some x := by rfl) (hvis : Vis X.env.scope x := by first | exact Or.inl rfl | exact Or.inr (Or.inl rfl) | exact Or.inr (Or.inr rfl)) (hd : (x == ("__debug__" : Str)) = false := by decide)
    (hcd : (x == ("__classdict__" : Str)) = false := by decide) (hs : swapsWith e (some (.Subscript (.Name x npos) ix pos')) pos.line X.env = pure false := by rfl)
    (ha : ∀ v, assign (.Subscript (.Name x npos) ix pos') X.env v = (do
      let ov ← holding [v] (eval (.Name x npos) X.env)
      let iv ← holding [v, ov] (eval ix X.env)
      standAt pos'
      holding [v, ov, iv] (setItem ov iv v)
      release [v, ov, iv] []) := by intro _; rfl)
    (hs1 : swapsWithSole [.Subscript (.Name x npos) ix pos'] e pos.line X.env = pure false := by rfl) (hw : swappedStores [.Subscript (.Name x npos) ix pos'] e X.env = pure none := by rfl)
    (h1 : (assignEach [.Subscript (.Name x npos) ix pos'] X.env).map (·.2) = [assign (.Subscript (.Name x npos) ix pos') X.env] := by rfl) :
    SD X G B (.Assign [.Subscript (.Name x npos) ix pos'] e pos) (oStA k ov oi) :=
  ps_imp (ps_alt (sd_stD k hr hv hi hN hvis hd hcd hs) (sd_stL k hv hi hN hvis hd hcd ha hs1 hw h1)) fun D σ H ⟨Z, ρ, S, p⟩ => by
    unfold oStA at p
    split at p
    · exact .inl ⟨Z, ρ, S, p⟩
    · exact .inr ⟨Z, ρ, S, p⟩
end
/-! .. d.get(k), d.get(k, x) -/
def get1 (dfl : D) (a b : Va) (ρ : Rho) : M Rs := match ctOf ρ a, rdV ρ b with
  | some c, some k => match dGet c k with
    | some o => .ok (.pu (o.getD dfl)) ρ
    | none => .st
  | _, _ => .st
def get2 (dfl a b : Va) (ρ : Rho) : M Rs := match dfl with
  | .pu d => get1 d a b ρ
  | _ => .st
def kDic (a : Va) (ρ : Rho) (m : M Rs) : M Rs := if vaDic ρ a = true then m else .st
def oGet1 (oa ob : O Va) : O Rs := fun ρ => (oa ρ).bind fun a ρ1 => kDic a ρ1 ((ob ρ1).bind fun b ρ2 => get1 .none a b ρ2)
def oGet2 (oa ob : O Va) (oc : O D) : O Rs := fun ρ => (oa ρ).bind fun a ρ1 => kDic a ρ1 ((ob ρ1).bind fun b ρ2 => (oc ρ2).bind fun c ρ3 => get1 c a b ρ3)
theorem isDic_at {K : PySem.W.Frag} {G : Gm} {Z : Hp} {ρ : Rho} {σ : St} {H : Hp} {v : V} {x : Va} (S : Sim K G Z ρ σ H) {ρ' : Rho} {H' : Hp} (r : VaR K Z ρ' σ H' v x) (h : vaDic ρ x = true) : ∃ ad, v = .ref ad ∧ IsD H ad := by
  cases x with
  | pu d => cases h
  | rf i =>
    have h : isDic ρ[i]? = true := h
    have r : σ[i]? = some (some v) := r
    unfold isDic at h
    split at h
    · rename_i p kvs hr
      obtain ⟨ad, o, q, ho, rc, _⟩ := S.ow i p _ hr
      rw [q] at r
      cases r
      cases o with
      | dK vs => exact ⟨ad, rfl, .inl ⟨vs, .of ho⟩⟩
      | _ => exact rc.elim
    · rename_i p kvs hr
      obtain ⟨ad, o, q, ho, rc, _⟩ := S.ow i p _ hr
      rw [q] at r
      cases r
      cases o with
      | dT vs => exact ⟨ad, rfl, .inr ⟨vs, .of ho⟩⟩
      | _ => exact rc.elim
    · cases h
theorem pu_rp {K : PySem.W.Frag} {Z H : Hp} {ρ : Rho} {σ : St} {v : V} {x : Va} {d : D} {G : Gm} (S : Sim K G Z ρ σ H) (r : VaR K Z ρ σ H v x) (h : rdV ρ x = some d) {c : Ct} {o : Option D} (hd : dGet c d = some o) : Rp K Z v d :=
  (S.rdb r h).keptD fun ds e => by subst e; cases c <;> cases hd
section
variable {X : Cx} {G : Gm} {B : Wish} {oa ob : O Va}
theorem get1_run {σ : St} {Z H : Hp} {ρ : Rho} {x y : V} {a b : Va} {Q : VK} {dfl : D} {dv : V} (S : Sim X.K G Z ρ σ H) (r1 : VaR X.K Z ρ σ H x a) (r2 : VaR X.K Z ρ σ H y b) (rd : Rp X.K Z dv dfl) (p : Post X.K G B (RsR X.K G) σ Z (get1 dfl a b ρ) Q) : ∃ ad o, x = .ref ad ∧ DGet H ad y o ∧ Q (o.getD dv) H := by
  unfold get1 at p
  split at p
  · rename_i c kd hc hk
    split at p
    · rename_i o hd
      obtain ⟨ad, ob, rfl, ho, rc⟩ := ctOf_at S r1 hc
      obtain ⟨xv, g, q⟩ := dGet_v ho S.zh rc (pu_rp S r2 hk hd) hd
      refine ⟨ad, xv, rfl, g, ?_⟩
      rcases q with ⟨rfl, rfl⟩ | ⟨d', v, rfl, rfl, rv⟩
      · exact p.fin S (.refl S.zh) rd
      · exact p.fin S (.refl S.zh) rv
    · exact p.elim
  · exact p.elim
end
end Ow
namespace Ow
open PySem L2
/-! ### a text so many times -/
def repT (x : Str) (n : Int) : Str := Txt.mul x n
abbrev rMulS : R2 := fun x y H Q => ∃ a n, x = V.str a ∧ y = V.int n ∧ MulOk a n ∧ Q (V.str (Txt.mul a n)) H
theorem op_mulS {X : Cx} : OpR X (binaryOp .Mult) rMulS := by
  intro pins s σ H x y v u Q I rx ry h
  obtain ⟨i, j, rfl, rfl, hz, q⟩ := h
  obtain ⟨t, rfl⟩ := rx
  obtain ⟨t', rfl⟩ := ry
  exact SB.mul hz (fun t' tk => ⟨.str (Txt.mul i j), H, I.tok _, ⟨_, rfl⟩, q⟩)
def mulSok (a : Str) (n : Int) : Bool := decide (n.natAbs < 1000000 ∧ a.length * n.toNat ≤ 16000000)
theorem mulSok_c {a : Str} {n : Int} (h : mulSok a n = true) : MulOk a n := by
  unfold mulSok at h
  obtain ⟨h1, h3⟩ := of_decide_eq_true h
  refine ⟨?_, fun h4 _ => ?_, fun _ _ => ?_⟩
  · rw [Bool.or_eq_false_iff]
    exact ⟨decide_eq_false (by omega), decide_eq_false (by omega)⟩
  · intro h5
    have h6 : (a.length : Int) ≤ (2 ^ 63 - 1) / n := by
      rw [Int.le_ediv_iff_mul_le (by omega)]
      have h7 : (a.length : Int) * n = ((a.length * n.toNat : Nat) : Int) := by
        rw [Int.natCast_mul, Int.toNat_of_nonneg (by omega)]
      rw [h7]
      omega
    omega
  · unfold Builtin.Str.tooLong
    exact decide_eq_false (Nat.not_lt.mpr (lim_le h3))
def fMulX : D → D → Option Rs
  | .str a, .int n => if mulSok a n = true then some (.pu (.str (repT a n))) else none
  | a, b => fMul a b
theorem binS_mulX {K : PySem.W.Frag} : BinS K (fun x y H Q => rMulS x y H Q ∨ rMulAll x y H Q) fMulX := by
  intro x y dx dy R Z H Q e rx ry hf k
  unfold fMulX at hf
  split at hf
  · split at hf
    · cases hf
      exact .inl ⟨_, _, rx.str, ry.int, mulSok_c ‹_›, k _ Z H (.refl e) (.str _)⟩
    · cases hf
  · exact .inr (binS_mul x y _ _ R Z H Q e rx ry hf k)
/-! ### int(x), also of a text -/
def fIntX : List D → Option Rs
  | [.str a] => if a.length ≤ 640 then (PySem.intText? a).map fun n => .pu (.int n) else none
  | ds => fInt1 ds
theorem callS_intX {K : PySem.W.Frag} {r : List V → Hp → VK → Prop} (h : CallS K r fInt1) : CallS K (fun xs H Q => (∃ a n, xs = [.str a] ∧ PySem.intText? a = some n ∧ a.length ≤ 640 ∧ Q (.int n) H) ∨ r xs H Q) fIntX := by
  intro vs ds R Z H Q e rv hf k
  unfold fIntX at hf
  split at hf
  · split at hf
    · rename_i a hl
      obtain ⟨v, rfl, r1⟩ := Paired.one rv
      rw [r1.str]
      cases q : PySem.intText? a with
      | none => rw [q] at hf; cases hf
      | some n =>
        rw [q] at hf
        cases hf
        exact .inl ⟨_, _, rfl, q, hl, k _ Z H (.refl e) (.int _)⟩
    · cases hf
  · exact .inr (h vs _ R Z H Q e rv hf k)
/-! ### isinstance, one built-in class -/
def tyName : D → Option String
  | .none => some "NoneType"
  | .bool _ => some "bool"
  | .int _ => some "int"
  | .str _ => some "str"
  | .list _ => some "list"
  | .tuple _ => some "tuple"
  | .dict [(.none, .list _)] => some "list"
  | .dict [(.bool true, .tuple _)] => some "tuple"
  | _ => none
theorem tyName_v {K : PySem.W.Frag} {Z H : Hp} {v : V} {d : D} {n : String} (h : tyName d = some n) (r : Rdb K Z H v d) (e : Same Z H) : TyX K H v (.type n) := by
  unfold tyName at h
  split at h
  · cases h; rcases r with r | ⟨_, _, _, _, q, _⟩
    · cases r; exact .base .non
    · cases q
  · cases h; rw [r.bl]; exact .base (.bl _)
  · cases h; rw [r.int]; exact .base (.int _)
  · cases h; rw [r.str]; exact .base (.str _)
  · cases h; obtain ⟨a, vs, rfl, ha, _⟩ := r.list e; exact .base (.lst ha)
  · cases h; obtain ⟨a, vs, rfl, ha, _⟩ := r.tup e; exact .base (.tup ha)
  · cases h
    obtain ⟨a, vs, rfl, ha, _⟩ := r.scr e
    rcases ha with (ha | ⟨o, ha⟩) | ⟨o, _, _, ho, hc, _⟩
    · exact .base (.lst ha)
    · exact .base (.frz ha)
    · exact .kList ho hc
  · cases h
    obtain ⟨a, vs, rfl, ha, _⟩ := r.kon e
    rcases ha with (ha | ⟨o, ha⟩) | ⟨o, _, _, ho, hc, _⟩
    · exact .base (.tup ha)
    · exact .fTuple ha
    · exact .kTuple ho hc
  · cases h
/-- a built-in class, its name among the program's words -/
def isi1 (T : String) (a : Va) (ρ : Rho) : M Rs := match rdV ρ a with
  | some d => match tyName d with
    | some n => match kitB n T with
      | some b => .ok (.pu (.bool b)) ρ
      | none => .st
    | none => .st
  | none => .st
def oIsi (T : String) (o : O Va) : O Rs := fun ρ => (o ρ).bind (isi1 T)
section
variable {X : Cx} {G : Gm} {B : Wish} {e : Expr} {p p2 pos : Pos} {oa : O Va} {T : String} {x : Str}
theorem rd_isi (hg : Gl X "isinstance") (hm : X.mg "isinstance" = none) (ha : ED X G B e oa) (hgT : Gl X x) (hmT : X.mg x = none) (hvT : bootBuiltins x = some (.type T)) (hnT : x ≠ "__name__" := by decide) (hdT : (x == ("__debug__" : Str)) = false := by decide)
    (he : starEach [e, .Name x p2] X.env = (false, eval e X.env) :: starEach [.Name x p2] X.env := by rfl) (he2 : starEach [.Name x p2] X.env = (false, eval (.Name x p2) X.env) :: starEach [] X.env := by rfl)
    (hpl : (backTo pos (starEach [.Name x p2] X.env)).any (·.1) = false := by rfl) (hv : bootBuiltins "isinstance" = some (.builtin "isinstance") := by rfl) : RD X G B (.Call (.Name "isinstance" p) [e, .Name x p2] [] pos) (oIsi T oa) :=
  pe_imp (pe_callB call_isi hg hm hv (pa_cons ha (pa_cons (pe_bltn (v := .ty T) hgT hmT hvT rfl hnT hdT) pa_nil he2) he) (by decide) (by decide) he hpl) fun σ H Q w => run_imp w fun v va ρ1 Z1 H1 S1 r1 p1 => by
    unfold isi1 at p1
    split at p1
    · rename_i d hd
      split at p1
      · rename_i n hn
        split at p1
        · rename_i b hb
          exact ⟨v, .ty T, .type n, .type T, b, rfl, .ty T, tyName_v hn (S1.rdb r1 hd) S1.zh, kit_ty hb, p1.fin S1 (.refl S1.zh) (.bl _)⟩
        · exact p1.elim
      · exact p1.elim
    · exact p1.elim
/-! ### names of the module -/
def Kn (K : PySem.W.Frag) (mg : Str → Option Value) (x : Str) (d : D) : Prop := ∃ v u, mg x = some u ∧ RelV v u ∧ ∀ Z, Rp K Z v d
theorem kn_str {K : PySem.W.Frag} {mg : Str → Option Value} {x z : Str} (h : ∃ t, mg x = some (.str z t)) : Kn K mg x (.str z) := by
  obtain ⟨t, h⟩ := h
  exact ⟨.str z, _, h, ⟨t, rfl⟩, fun Z => .str z⟩
theorem kn_int {K : PySem.W.Frag} {mg : Str → Option Value} {x : Str} {z : Int} (h : ∃ t, mg x = some (.int z t)) : Kn K mg x (.int z) := by
  obtain ⟨t, h⟩ := h
  exact ⟨.int z, _, h, ⟨t, rfl⟩, fun Z => .int z⟩
theorem kn_tup {K : PySem.W.Frag} {mg : Str → Option Value} {a : Addr} {vs : List V} {ds : List D} (h : mg x = some (.ref a)) (hs : ∀ H, SqT K H a vs) (hd : ∀ Z, RpAll K Z vs ds) : Kn K mg x (kon ds) := ⟨.ref a, _, h, rfl, fun Z => .kon (hs Z) (hd Z)⟩
theorem pd_kn {d : D} (hg : Gl X x) (h : Kn X.K X.mg x d) (hd : (x == ("__debug__" : Str)) = false := by decide) : PD X G B (.Name x pos) (oC d) := by
  obtain ⟨v, u, hm, r, hz⟩ := h
  exact pd_const (pe_glob hg hm r hd) hz
end
section
variable {X : Cx} {G : Gm} {B : Wish} {a b : Expr} {pos : Pos} {oa ob : O Va}
theorem rd_mulX (ha : ED X G B a oa) (hb : ED X G B b ob) : RD X G B (.BinOp a .Mult b pos) (oBin fMulX oa ob) := rd_bin (op_mulS.or op_mulAll) binS_mulX ha hb
end
end Ow
namespace Ow
open PySem PySem.Spec PyProof.Rows L2
/-! ### short names for the built-ins -/
section
variable {X : Cx} {G : Gm} {B : Wish} {p pos apos npos cpos : Pos} {e o : Expr} {es : List Expr} {oas : O (List Va)} {oo : O Va} {x : Str}
theorem zb_list (hg : Gl X "list") (hm : X.mg "list" = none) (ha : AD X G B (e :: es) oas) (he : starEach (e :: es) X.env = (false, eval e X.env) :: starEach es X.env := by rfl) (hpl : (backTo pos (starEach es X.env)).any (·.1) = false := by rfl) : RD X G B (.Call (.Name "list" p) (e :: es) [] pos) (oCB fList oas) :=
  rd_callTy call_list_of callS_list hg hm boot_list ha (by decide) (by decide) he hpl
theorem zb_tuple (hg : Gl X "tuple") (hm : X.mg "tuple" = none) (ha : AD X G B (e :: es) oas) (he : starEach (e :: es) X.env = (false, eval e X.env) :: starEach es X.env := by rfl) (hpl : (backTo pos (starEach es X.env)).any (·.1) = false := by rfl) : RD X G B (.Call (.Name "tuple" p) (e :: es) [] pos) (oCB fTuple oas) :=
  rd_callTy call_tuple_of callS_tuple hg hm boot_tuple ha (by decide) (by decide) he hpl
theorem zb_int (hg : Gl X "int") (hm : X.mg "int" = none) (ha : AD X G B (e :: es) oas) (he : starEach (e :: es) X.env = (false, eval e X.env) :: starEach es X.env := by rfl) (hpl : (backTo pos (starEach es X.env)).any (·.1) = false := by rfl) : RD X G B (.Call (.Name "int" p) (e :: es) [] pos) (oCB fIntX oas) :=
  rd_callTy (CallR.or call_int_str call_int1) (callS_intX callS_int) hg hm boot_int ha (by decide) (by decide) he hpl
theorem zb_str (hg : Gl X "str") (hm : X.mg "str" = none) (ha : AD X G B (e :: es) oas) (he : starEach (e :: es) X.env = (false, eval e X.env) :: starEach es X.env := by rfl) (hpl : (backTo pos (starEach es X.env)).any (·.1) = false := by rfl) : RD X G B (.Call (.Name "str" p) (e :: es) [] pos) (oCB fStr1 oas) :=
  rd_callTy call_str_int callS_str hg hm boot_str ha (by decide) (by decide) he hpl
theorem zb_abs (hg : Gl X "abs") (hm : X.mg "abs" = none) (ha : AD X G B (e :: es) oas) (he : starEach (e :: es) X.env = (false, eval e X.env) :: starEach es X.env := by rfl) (hpl : (backTo pos (starEach es X.env)).any (·.1) = false := by rfl) : RD X G B (.Call (.Name "abs" p) (e :: es) [] pos) (oCB fAbs oas) :=
  rd_callB call_abs callS_abs hg hm boot_abs ha (by decide) (by decide) he hpl
theorem zb_max2 (hc : X.calm = true) (hg : Gl X "max") (hm : X.mg "max" = none) (ha : AD X G B (e :: es) oas) (he : starEach (e :: es) X.env = (false, eval e X.env) :: starEach es X.env := by rfl) (hpl : (backTo pos (starEach es X.env)).any (·.1) = false := by rfl) : RD X G B (.Call (.Name "max" p) (e :: es) [] pos) (oCB fMax2 oas) :=
  rd_callB (call_max2 hc) callS_max2 hg hm boot_max ha (by decide) (by decide) he hpl
theorem zb_min2 (hc : X.calm = true) (hg : Gl X "min") (hm : X.mg "min" = none) (ha : AD X G B (e :: es) oas) (he : starEach (e :: es) X.env = (false, eval e X.env) :: starEach es X.env := by rfl) (hpl : (backTo pos (starEach es X.env)).any (·.1) = false := by rfl) : RD X G B (.Call (.Name "min" p) (e :: es) [] pos) (oCB fMin2 oas) :=
  rd_callB (call_min2 hc) callS_min2 hg hm boot_min ha (by decide) (by decide) he hpl
theorem zb_max1 (hc : X.calm = true) (hg : Gl X "max") (hm : X.mg "max" = none) (ha : AD X G B (e :: es) oas) (he : starEach (e :: es) X.env = (false, eval e X.env) :: starEach es X.env := by rfl) (hpl : (backTo pos (starEach es X.env)).any (·.1) = false := by rfl) : RD X G B (.Call (.Name "max" p) (e :: es) [] pos) (oCB fMax1 oas) :=
  rd_callB (cr_max hc) callS_max1 hg hm boot_max ha (by decide) (by decide) he hpl
theorem zb_min1 (hc : X.calm = true) (hg : Gl X "min") (hm : X.mg "min" = none) (ha : AD X G B (e :: es) oas) (he : starEach (e :: es) X.env = (false, eval e X.env) :: starEach es X.env := by rfl) (hpl : (backTo pos (starEach es X.env)).any (·.1) = false := by rfl) : RD X G B (.Call (.Name "min" p) (e :: es) [] pos) (oCB fMin1 oas) :=
  rd_callB (cr_min hc) callS_min1 hg hm boot_min ha (by decide) (by decide) he hpl
theorem zb_sum (hc : X.calm = true) (hg : Gl X "sum") (hm : X.mg "sum" = none) (ha : AD X G B (e :: es) oas) (he : starEach (e :: es) X.env = (false, eval e X.env) :: starEach es X.env := by rfl) (hpl : (backTo pos (starEach es X.env)).any (·.1) = false := by rfl) : RD X G B (.Call (.Name "sum" p) (e :: es) [] pos) (oCB fSum oas) :=
  rd_callB (cr_sum hc) callS_sum hg hm boot_sum ha (by decide) (by decide) he hpl
theorem zb_all (hc : X.calm = true) (hg : Gl X "all") (hm : X.mg "all" = none) (ha : AD X G B (e :: es) oas) (he : starEach (e :: es) X.env = (false, eval e X.env) :: starEach es X.env := by rfl) (hpl : (backTo pos (starEach es X.env)).any (·.1) = false := by rfl) : RD X G B (.Call (.Name "all" p) (e :: es) [] pos) (oCB fAll oas) :=
  rd_callB (cr_all hc) callS_all hg hm boot_all ha (by decide) (by decide) he hpl
theorem zb_any (hc : X.calm = true) (hg : Gl X "any") (hm : X.mg "any" = none) (ha : AD X G B (e :: es) oas) (he : starEach (e :: es) X.env = (false, eval e X.env) :: starEach es X.env := by rfl) (hpl : (backTo pos (starEach es X.env)).any (·.1) = false := by rfl) : RD X G B (.Call (.Name "any" p) (e :: es) [] pos) (oCB fAny oas) :=
  rd_callB (cr_any hc) callS_any hg hm boot_any ha (by decide) (by decide) he hpl
theorem zb_sorted (hg : Gl X "sorted") (hm : X.mg "sorted" = none) (ha : AD X G B (e :: es) oas) (he : starEach (e :: es) X.env = (false, eval e X.env) :: starEach es X.env := by rfl) (hpl : (backTo pos (starEach es X.env)).any (·.1) = false := by rfl) : RD X G B (.Call (.Name "sorted" p) (e :: es) [] pos) (oCB fSorted oas) :=
  rd_callB cr_sortedI callS_sorted hg hm boot_sorted ha (by decide) (by decide) he hpl
theorem zm_join (ho : ED X G B o oo) (ha : AD X G B (e :: es) oas)
    (hbase : attributeBase o "join" X.env (eval o X.env) = eval o X.env := by rfl)
    (hfew : ((backTo cpos (starEach (e :: es) X.env)).all (fun x => !x.1) && (backToKw cpos (keywordEach [] X.env)).all (fun x => x.1.isSome)
      && decide ((e :: es).length + ([] : List Keyword).length + (if ([] : List Keyword).isEmpty then 0 else 1) < 30)) = true := by rfl)
    (hline : (apos.endLine == cpos.line) = true := by rfl) (hs : starEach (e :: es) X.env = (false, eval e X.env) :: starEach es X.env := by rfl) (hplain : (backTo cpos (starEach es X.env)).any (·.1) = false := by rfl) :
    RD X G B (.Call (.Attribute o "join" apos) (e :: es) [] cpos) (oBM "str" fJoin oo oas) :=
  rd_bm F.plainAttrs_str F.slot_str_join F.type_str_join mt_join metS_join ho ha hbase hfew hline hs hplain
theorem zm_split (ho : ED X G B o oo) (ha : AD X G B (e :: es) oas)
    (hbase : attributeBase o "split" X.env (eval o X.env) = eval o X.env := by rfl)
    (hfew : ((backTo cpos (starEach (e :: es) X.env)).all (fun x => !x.1) && (backToKw cpos (keywordEach [] X.env)).all (fun x => x.1.isSome)
      && decide ((e :: es).length + ([] : List Keyword).length + (if ([] : List Keyword).isEmpty then 0 else 1) < 30)) = true := by rfl)
    (hline : (apos.endLine == cpos.line) = true := by rfl) (hs : starEach (e :: es) X.env = (false, eval e X.env) :: starEach es X.env := by rfl) (hplain : (backTo cpos (starEach es X.env)).any (·.1) = false := by rfl) :
    RD X G B (.Call (.Attribute o "split" apos) (e :: es) [] cpos) (oBM "str" fSplit oo oas) :=
  rd_bm F.plainAttrs_str F.slot_str_split F.type_str_split mt_split metS_split ho ha hbase hfew hline hs hplain
theorem zl_append (i : Nat) {oas : O (List D)} (ha : QD X G B (e :: es) oas)
    (hN : X.N[i]? = some x := by rfl) (hv : Vis X.env.scope x := by first | exact Or.inl rfl | exact Or.inr (Or.inl rfl) | exact Or.inr (Or.inr rfl)) (hd : (x == ("__debug__" : Str)) = false := by decide)
    (hcd : (x == ("__classdict__" : Str)) = false := by decide)
    (hbase : attributeBase (.Name x npos) "append" X.env (eval (.Name x npos) X.env) = eval (.Name x npos) X.env := by rfl)
    (hfew : ((backTo cpos (starEach (e :: es) X.env)).all (fun x => !x.1) && (backToKw cpos (keywordEach [] X.env)).all (fun x => x.1.isSome)
      && decide ((e :: es).length + ([] : List Keyword).length + (if ([] : List Keyword).isEmpty then 0 else 1) < 30)) = true := by rfl)
    (hline : (apos.endLine == cpos.line) = true := by rfl) (hs : starEach (e :: es) X.env = (false, eval e X.env) :: starEach es X.env := by rfl) (hplain : (backTo cpos (starEach es X.env)).any (·.1) = false := by rfl) :
    PD X G B (.Call (.Attribute (.Name x npos) "append" apos) (e :: es) [] cpos) (oMutK i fAppend oas) :=
  pd_mutK i F.slot_list_append F.type_list_append mt_append mutK_append ha hN hv hd hcd hbase hfew hline hs hplain
theorem zl_insert (i : Nat) {oas : O (List D)} (ha : QD X G B (e :: es) oas)
    (hN : X.N[i]? = some x := by rfl) (hv : Vis X.env.scope x := by first | exact Or.inl rfl | exact Or.inr (Or.inl rfl) | exact Or.inr (Or.inr rfl)) (hd : (x == ("__debug__" : Str)) = false := by decide)
    (hcd : (x == ("__classdict__" : Str)) = false := by decide)
    (hbase : attributeBase (.Name x npos) "insert" X.env (eval (.Name x npos) X.env) = eval (.Name x npos) X.env := by rfl)
    (hfew : ((backTo cpos (starEach (e :: es) X.env)).all (fun x => !x.1) && (backToKw cpos (keywordEach [] X.env)).all (fun x => x.1.isSome)
      && decide ((e :: es).length + ([] : List Keyword).length + (if ([] : List Keyword).isEmpty then 0 else 1) < 30)) = true := by rfl)
    (hline : (apos.endLine == cpos.line) = true := by rfl) (hs : starEach (e :: es) X.env = (false, eval e X.env) :: starEach es X.env := by rfl) (hplain : (backTo cpos (starEach es X.env)).any (·.1) = false := by rfl) :
    PD X G B (.Call (.Attribute (.Name x npos) "insert" apos) (e :: es) [] cpos) (oMutK i fInsert oas) :=
  pd_mutK i F.slot_list_insert F.type_list_insert mt_insert mutK_insert ha hN hv hd hcd hbase hfew hline hs hplain
theorem zl_extend (i : Nat) (ha : AD X G B (e :: es) oas)
    (hN : X.N[i]? = some x := by rfl) (hv : Vis X.env.scope x := by first | exact Or.inl rfl | exact Or.inr (Or.inl rfl) | exact Or.inr (Or.inr rfl)) (hd : (x == ("__debug__" : Str)) = false := by decide)
    (hcd : (x == ("__classdict__" : Str)) = false := by decide)
    (hbase : attributeBase (.Name x npos) "extend" X.env (eval (.Name x npos) X.env) = eval (.Name x npos) X.env := by rfl)
    (hfew : ((backTo cpos (starEach (e :: es) X.env)).all (fun x => !x.1) && (backToKw cpos (keywordEach [] X.env)).all (fun x => x.1.isSome)
      && decide ((e :: es).length + ([] : List Keyword).length + (if ([] : List Keyword).isEmpty then 0 else 1) < 30)) = true := by rfl)
    (hline : (apos.endLine == cpos.line) = true := by rfl) (hs : starEach (e :: es) X.env = (false, eval e X.env) :: starEach es X.env := by rfl) (hplain : (backTo cpos (starEach es X.env)).any (·.1) = false := by rfl) :
    PD X G B (.Call (.Attribute (.Name x npos) "extend" apos) (e :: es) [] cpos) (oMut i fExtend oas) :=
  pd_mut i F.slot_list_extend F.type_list_extend mt_extend mutS_extend ha hN hv hd hcd hbase hfew hline hs hplain
theorem zl_popAt (i : Nat) (ha : AD X G B (e :: es) oas)
    (hN : X.N[i]? = some x := by rfl) (hv : Vis X.env.scope x := by first | exact Or.inl rfl | exact Or.inr (Or.inl rfl) | exact Or.inr (Or.inr rfl)) (hd : (x == ("__debug__" : Str)) = false := by decide)
    (hcd : (x == ("__classdict__" : Str)) = false := by decide)
    (hbase : attributeBase (.Name x npos) "pop" X.env (eval (.Name x npos) X.env) = eval (.Name x npos) X.env := by rfl)
    (hfew : ((backTo cpos (starEach (e :: es) X.env)).all (fun x => !x.1) && (backToKw cpos (keywordEach [] X.env)).all (fun x => x.1.isSome)
      && decide ((e :: es).length + ([] : List Keyword).length + (if ([] : List Keyword).isEmpty then 0 else 1) < 30)) = true := by rfl)
    (hline : (apos.endLine == cpos.line) = true := by rfl) (hs : starEach (e :: es) X.env = (false, eval e X.env) :: starEach es X.env := by rfl) (hplain : (backTo cpos (starEach es X.env)).any (·.1) = false := by rfl) :
    PD X G B (.Call (.Attribute (.Name x npos) "pop" apos) (e :: es) [] cpos) (oMut i fPopAt oas) :=
  pd_mut i F.slot_list_pop F.type_list_pop mt_popAt mutS_popAt ha hN hv hd hcd hbase hfew hline hs hplain
theorem zl_pop (i : Nat)
    (hN : X.N[i]? = some x := by rfl) (hv : Vis X.env.scope x := by first | exact Or.inl rfl | exact Or.inr (Or.inl rfl) | exact Or.inr (Or.inr rfl)) (hd : (x == ("__debug__" : Str)) = false := by decide)
    (hcd : (x == ("__classdict__" : Str)) = false := by decide)
    (hbase : attributeBase (.Name x npos) "pop" X.env (eval (.Name x npos) X.env) = eval (.Name x npos) X.env := by rfl) (hline : (apos.endLine == cpos.line) = true := by rfl) :
    PD X G B (.Call (.Attribute (.Name x npos) "pop" apos) [] [] cpos) (oMut i fPop oNil) :=
  pd_mut0 i F.slot_list_pop F.type_list_pop mt_pop mutS_pop hN hv hd hcd hbase hline
end
/-! ### defs by their names -/
structure Cal (P : Program) (w : World) (K : PySem.W.Frag) (mg : Str → Option Value) (base : Heap) (k : Nat) (x : Str) (ps : List Str) (g : Fn) : Prop where
  ex : ∃ f fd, FnOk P w K mg base CX0 k f fd ps (spD K ps.length g) ∧ mg x = some (.ref f) ∧ PySem.W.keepIn K (.ref f) = true ∧ Binds K fd ps []
section
variable {X : Cx} {G : Gm} {B : Wish} {k kk : Nat} {ps : List Str} {g : Fn} {x : Str} {p pos : Pos} {e : Expr} {es : List Expr} {oas : O (List Va)}
theorem rd_cal (c : Cal X.prog X.w X.K X.mg X.base k x ps g) (hr : Room kk X.A) (hk : k ≤ kk) (hg : Gl X x) (ha : AD X G noB (e :: es) oas) (hl : Many ps.length oas) (hdb : (x == ("__debug__" : Str)) = false := by decide)
    (he : starEach (e :: es) X.env = (false, eval e X.env) :: starEach es X.env := by rfl) (hpl : (backTo pos (starEach es X.env)).any (·.1) = false := by rfl) : RD X G noB (.Call (.Name x p) (e :: es) [] pos) (oCall g oas) := by
  obtain ⟨f, fd, F, hm, kp, b⟩ := c.ex
  exact rd_call F (hr.mono hk) hg hm kp b ha hl hdb he hpl
theorem rd_cal0 (c : Cal X.prog X.w X.K X.mg X.base k x [] g) (hr : Room kk X.A) (hk : k ≤ kk) (hg : Gl X x) (hdb : (x == ("__debug__" : Str)) = false := by decide) : RD X G noB (.Call (.Name x p) [] [] pos) (oCall g oNil) := by
  obtain ⟨f, fd, F, hm, kp, b⟩ := c.ex
  exact rd_call0 F (hr.mono hk) hg hm kp b hdb
end
end Ow
namespace Ow
open PySem PySem.Spec PyProof.Rows L2
/-! ### the module's constants, read in the written part -/
mutual
def konB (K : PySem.W.Frag) : Nat → D → Value → Bool
  | _, .none, .none => true
  | _, .bool b, .bool c => b == c
  | _, .int i, .int j _ => decide (i = j)
  | _, .str x, .str y _ => decide (x = y)
  | n + 1, .dict [(.bool true, .tuple ds)], .ref a => match K.lookup a with
    | some ⟨.type c, _, .seq its _, _⟩ => decide (c = "tuple") && (decide (its.size ≤ sizeLine) && konL K n ds its.toList)
    | _ => false
  | _, _, _ => false
def konL (K : PySem.W.Frag) : Nat → List D → List Value → Bool
  | _, [], [] => true
  | n + 1, d :: ds, u :: us => konB K n d u && konL K n ds us
  | _, _, _ => false
end
theorem rpAll_of {K : PySem.W.Frag} {vs : List V} {ds : List D} (h : Paired (fun v d => ∀ Z, Rp K Z v d) vs ds) (Z : Hp) : RpAll K Z vs ds := by
  induction h with
  | nil => exact .nil
  | cons h1 h2 ih => exact .cons (h1 Z) ih
theorem kon_ok {K : PySem.W.Frag} : ∀ n : Nat, (∀ (d : D) (u : Value), konB K n d u = true → ∃ v, RelV v u ∧ ∀ Z, Rp K Z v d) ∧ (∀ (ds : List D) (us : List Value), konL K n ds us = true → ∃ vs, Vals vs us ∧ Paired (fun v d => ∀ Z, Rp K Z v d) vs ds) := by
  intro n
  induction n with
  | zero =>
    refine ⟨fun d u h => ?_, fun ds us h => ?_⟩
    · unfold konB at h
      split at h
      · exact ⟨.non, rfl, fun Z => .non⟩
      · rw [eq_of_beq h]; exact ⟨.bl _, rfl, fun Z => .bl _⟩
      · rw [of_decide_eq_true h]; exact ⟨.int _, ⟨_, rfl⟩, fun Z => .int _⟩
      · rw [of_decide_eq_true h]; exact ⟨.str _, ⟨_, rfl⟩, fun Z => .str _⟩
      · exact absurd ‹0 = Nat.succ _› (Nat.succ_ne_zero _).symm
      · cases h
    · unfold konL at h
      split at h
      · exact ⟨[], .nil, .nil⟩
      · exact absurd ‹0 = Nat.succ _› (Nat.succ_ne_zero _).symm
      · cases h
  | succ n ih =>
    refine ⟨fun d u h => ?_, fun ds us h => ?_⟩
    · unfold konB at h
      split at h
      · exact ⟨.non, rfl, fun Z => .non⟩
      · rw [eq_of_beq h]; exact ⟨.bl _, rfl, fun Z => .bl _⟩
      · rw [of_decide_eq_true h]; exact ⟨.int _, ⟨_, rfl⟩, fun Z => .int _⟩
      · rw [of_decide_eq_true h]; exact ⟨.str _, ⟨_, rfl⟩, fun Z => .str _⟩
      · rename_i m ds a hn
        cases hn
        split at h
        · rename_i c _ its z _ q
          obtain ⟨h1, h2⟩ := He.ba h
          obtain ⟨h3, h4⟩ := He.ba h2
          obtain ⟨vs, hv, hd⟩ := ih.2 _ _ h4
          exact ⟨.ref a, rfl, fun Z => .kon (.inr ⟨_, its, z, q, congrArg Value.type (of_decide_eq_true h1), rfl, of_decide_eq_true h3, hv⟩) (rpAll_of hd Z)⟩
        · cases h
      · cases h
    · unfold konL at h
      split at h
      · exact ⟨[], .nil, .nil⟩
      · rename_i m d ds u us hn
        cases hn
        obtain ⟨h1, h2⟩ := He.ba h
        obtain ⟨v, rv, rd⟩ := ih.1 _ _ h1
        obtain ⟨vs, rvs, rds⟩ := ih.2 _ _ h2
        exact ⟨v :: vs, .cons rv rvs, .cons rd rds⟩
      · cases h
def konG (K : PySem.W.Frag) (x : Str) (d : D) : Bool := match PySem.W.nsIn K mainGlobals x with
  | some (some u) => konB K 1000 d u
  | _ => false
theorem konG_ok {K : PySem.W.Frag} {h : Heap} {mg : Str → Option Value} (X : K.In h) (G : h.Ns mainGlobals mg) {x : Str} {d : D} (c : konG K x d = true) : Kn K mg x d := by
  unfold konG at c
  split at c
  · rename_i u e
    obtain ⟨v, r, z⟩ := (kon_ok 1000).1 _ _ c
    exact ⟨v, u, PySem.W.mg_of X G e, r, z⟩
  · cases c
/-! ### the head's hook, and more facts -/
open He
def obsQ (fa : List Fa) (fn : List DefD) (ex : PySem.W.Frag → Bool) (K : PySem.W.Frag) : AlD := (((fa.all fun f => f.ok K) && fn.all fun d => d.ok K) && ex K, fn.map fun d => fnW K d.at_)
def obsQG (n : Nat) (fa : List Fa) (fn : List DefD) (ex : PySem.W.Frag → Bool) (g : Addr → Option Obj) : AlD := obsQ fa fn ex (frG g (asD g n))
def hookQ (n : Nat) (fa : List Fa) (fn : List DefD) (ex : PySem.W.Frag → Bool) : PySem.W.Hook where
  α := AlD
  obs := fun s => obsQG n fa fn ex s.heap.get?
  val := fun _ => He.valD fn
  says := fun _ h => ∃ K : PySem.W.Frag, K.In h ∧ SaysD fa fn K ∧ ex K = true
  of := fun _ _ e => ⟨_, frG_in, by
    have e1 : (((fa.all fun f => f.ok _) && fn.all fun d => d.ok _) && ex _) = true := congrArg (fun z : AlD => z.1) e
    have e2 := congrArg (fun z : AlD => z.2) e
    obtain ⟨e3, e4⟩ := ba e1
    exact ⟨Prod.ext e3 e2, e4⟩⟩
  keeps := fun _ _ _ ⟨K, hK, c⟩ k => ⟨K, PySem.W.Frag.In.keeps hK k, c⟩
theorem obsQG_eq {n : Nat} {fa : List Fa} {fn : List DefD} {ex : PySem.W.Frag → Bool} {g : Addr → Option Obj} {s : Shared} (h : ∀ a, g a = s.heap.get? a) : obsQG n fa fn ex g = (hookQ n fa fn ex).obs s := by
  have e : g = s.heap.get? := funext h
  rw [e] <;> rfl
/-! ### the end -/
section
variable {P : Program} {w : World} {K : PySem.W.Frag} {mg : Str → Option Value} {base : Heap} {k : Nat} {x qual : Str} {params : Arguments} {body : List Stmt} {scope : Scope} {f : Addr} {fd : FuncData} {ps : List Str} {g : Fn}
theorem Cal.of (ok : FnOk P w K mg base CX0 k f fd ps (spD K ps.length g)) (hm : mg x = some (.ref f)) (F : FunD K x qual params body scope [] [] f fd)
    (h : ∀ (kV doc pm : Value) (an : Option Addr) (cdv ct : Value) (us : List Value), us.length = ps.length → bindArgs (PySem.W.fnOf x qual params body scope .none kV doc pm an cdv ct) ⟨us, []⟩ = pure (ps.zip us)) : Cal P w K mg base k x ps g :=
  ⟨f, fd, ok, hm, F.kp, F.bindsN h⟩
theorem sp_law {outs : List Sl} {H : Hp} {a : Addr} {ns : List Int} (hg : ∃ outs, g [.pu (scr (ns.map PyData.int))] = .ret (.pu (.bool true)) outs) (hS : SqL K H a (ns.map V.int)) : spD K 1 g [.ref a] H (fun v _ => v = .bl true) (fun _ _ _ => False) := by
  obtain ⟨outs, hg⟩ := hg
  refine ⟨rfl, H, [.pu (scr (ns.map PyData.int))], .refl _, ⟨rfl, fun i e => ?_, fun i d e => ?_, fun i p c e => ?_, fun i j p q c d n e1 e2 => ?_⟩, ?_⟩
  · cases i with
    | zero => cases e
    | succ i => cases e
  · cases i with
    | zero => cases e; exact ⟨_, rfl, .frz hS (RpAll.ints ns)⟩
    | succ i => cases e
  · cases i with
    | zero => cases e
    | succ i => cases e
  · cases i with
    | zero => cases e1
    | succ i => cases e1
  · rw [hg]
    intro v Z' H' _ hr
    cases (show Rp K Z' v (.bool true) from hr)
    rfl
end
end Ow
namespace Ow
open PySem L2
/-! ### running the plain programs: rules for simp -/
section
variable (z : Sl) (ρ : Rho)
@[simp] theorem ap_pu (o : O D) : oPu o (z :: ρ) = (o (z :: ρ)).bind fun d ρ1 => .ok (.pu d) ρ1 := rfl
@[simp] theorem ap_res (o : O D) : oRes o (z :: ρ) = (o (z :: ρ)).bind fun d ρ1 => .ok (.pu d) ρ1 := rfl
@[simp] theorem ap_frz (o : O Rs) : oFrz o (z :: ρ) = (o (z :: ρ)).bind frz1 := rfl
@[simp] theorem ap_keep (o : O Va) : oKeep o (z :: ρ) = (o (z :: ρ)).bind keep1 := rfl
@[simp] theorem ap_c (d : D) : oC d (z :: ρ) = .ok d (z :: ρ) := rfl
theorem ap_var (i : Nat) : oVar i (z :: ρ) = match (z :: ρ)[i]? with | some (.pu d) => .ok (.pu d) (z :: ρ) | some (.ow _ _) => .ok (.rf i) (z :: ρ) | _ => .st := rfl
@[simp] theorem ap_bin (f : D → D → Option Rs) (a b : O Va) : oBin f a b (z :: ρ) = (a (z :: ρ)).bind fun x ρ1 => (b ρ1).bind fun y ρ2 => bin1 f x y ρ2 := rfl
@[simp] theorem ap_un (f : D → Option Rs) (a : O Va) : oUn f a (z :: ρ) = (a (z :: ρ)).bind (un1 f) := rfl
@[simp] theorem ap_tst (o : O Rs) : oTst o (z :: ρ) = (o (z :: ρ)).bind tst1 := rfl
@[simp] theorem ap_tru (o : O Va) : oTru o (z :: ρ) = (o (z :: ρ)).bind tru1 := rfl
@[simp] theorem ap_and (a b : O Bool) : oAnd a b (z :: ρ) = (a (z :: ρ)).bind fun c ρ1 => if c = true then b ρ1 else .ok false ρ1 := rfl
@[simp] theorem ap_or (a b : O Bool) : oOr a b (z :: ρ) = (a (z :: ρ)).bind fun c ρ1 => if c = true then .ok true ρ1 else b ρ1 := rfl
@[simp] theorem ap_not (a : O Bool) : oNot a (z :: ρ) = (a (z :: ρ)).bind fun c ρ1 => .ok (!c) ρ1 := rfl
@[simp] theorem ap_bl (a : O Bool) : oBl a (z :: ρ) = (a (z :: ρ)).bind fun c ρ1 => .ok (.bool c) ρ1 := rfl
@[simp] theorem ap_if {α : Type} (c : O Bool) (a b : O α) : oIf c a b (z :: ρ) = (c (z :: ρ)).bind fun t ρ1 => if t = true then a ρ1 else b ρ1 := rfl
@[simp] theorem ap_andV (a b : O D) : oAndV a b (z :: ρ) = (a (z :: ρ)).bind fun d ρ1 => bl1 d fun c => if c = true then b ρ1 else .ok (.bool false) ρ1 := rfl
@[simp] theorem ap_orV (a b : O D) : oOrV a b (z :: ρ) = (a (z :: ρ)).bind fun d ρ1 => bl1 d fun c => if c = true then .ok (.bool true) ρ1 else b ρ1 := rfl
@[simp] theorem ap_notV (a : O D) : oNotV a (z :: ρ) = (a (z :: ρ)).bind fun d ρ1 => bl1 d fun c => .ok (.bool (!c)) ρ1 := rfl
@[simp] theorem ap_chain (f g : D → D → Option Rs) (oa ob oc : O Va) : oChain f g oa ob oc (z :: ρ) = (oa (z :: ρ)).bind fun a ρ1 => (ob ρ1).bind fun b ρ2 => (bin1 f a b ρ2).bind fun r ρ3 => (tst1 r ρ3).bind fun k ρ4 => if k = true then (oc ρ4).bind fun c ρ5 => bin1 g b c ρ5 else .ok (.pu (.bool false)) ρ4 := rfl
@[simp] theorem ap_nil {α : Type} : (oNil : O (List α)) (z :: ρ) = .ok [] (z :: ρ) := rfl
@[simp] theorem ap_cons {α : Type} (a : O α) (r : O (List α)) : oCons a r (z :: ρ) = (a (z :: ρ)).bind fun x ρ1 => (r ρ1).bind fun xs ρ2 => .ok (x :: xs) ρ2 := rfl
@[simp] theorem ap_tup (o : O (List D)) : oTup o (z :: ρ) = (o (z :: ρ)).bind fun ds ρ1 => if ds.length ≤ 16000000 then .ok (.tuple ds) ρ1 else .st := rfl
@[simp] theorem ap_lst (o : O (List D)) : oLst o (z :: ρ) = (o (z :: ρ)).bind fun ds ρ1 => if ds.length ≤ 16000000 then .ok (.nw (.li ds)) ρ1 else .st := rfl
@[simp] theorem ap_part (o : O D) : oPart o (z :: ρ) = (o (z :: ρ)).bind part1 := rfl
@[simp] theorem ap_noPart : oNoPart (z :: ρ) = .ok none (z :: ρ) := rfl
@[simp] theorem ap_sl (oa : O Va) (ol oh : O (Option Int)) : oSl oa ol oh (z :: ρ) = (oa (z :: ρ)).bind fun a ρ1 => (ol ρ1).bind fun lo ρ2 => (oh ρ2).bind fun hi ρ3 => sl1 a lo hi ρ3 := rfl
@[simp] theorem ap_cb (f : List D → Option Rs) (oas : O (List Va)) : oCB f oas (z :: ρ) = (oas (z :: ρ)).bind (cb1 f) := rfl
@[simp] theorem ap_len (o : O Va) : oLen o (z :: ρ) = (o (z :: ρ)).bind len1 := rfl
@[simp] theorem ap_isi (T : String) (o : O Va) : oIsi T o (z :: ρ) = (o (z :: ρ)).bind (isi1 T) := rfl
@[simp] theorem ap_bm (T : String) (f : D → List D → Option Rs) (oo : O Va) (oas : O (List Va)) : oBM T f oo oas (z :: ρ) = (oo (z :: ρ)).bind fun a ρ1 => ty1 T a ρ1 ((oas ρ1).bind fun as ρ2 => met1 f a as ρ2) := rfl
@[simp] theorem ap_seq (a b : Os) : oSeq a b (z :: ρ) = (a (z :: ρ)).then b := rfl
@[simp] theorem ap_next : oNext (z :: ρ) = .nx (z :: ρ) := rfl
@[simp] theorem ap_break : oBreak (z :: ρ) = .bk (z :: ρ) := rfl
@[simp] theorem ap_cont : oCont (z :: ρ) = .ct (z :: ρ) := rfl
@[simp] theorem ap_drop {α : Type} (o : O α) : oDrop o (z :: ρ) = (o (z :: ρ)).bindS fun _ ρ1 => .nx ρ1 := rfl
@[simp] theorem ap_ret (o : O Rs) : oRet o (z :: ρ) = (o (z :: ρ)).bindS fun r ρ1 => .rt r ρ1 := rfl
@[simp] theorem ap_retN : oRetN (z :: ρ) = .rt (.pu .none) (z :: ρ) := rfl
theorem ap_retV (i : Nat) : oRetV i (z :: ρ) = match (z :: ρ)[i]? with | some (.pu d) => .rt (.pu d) (z :: ρ) | some (.ow false c) => .rt (.nw c) ((z :: ρ).set i .no) | _ => .st := rfl
@[simp] theorem ap_ifS (c : O Bool) (a b : Os) : oIfS c a b (z :: ρ) = (c (z :: ρ)).bindS fun t ρ1 => if t = true then a ρ1 else b ρ1 := rfl
@[simp] theorem ap_set (i : Nat) (o : O Rs) : oSet i o (z :: ρ) = (o (z :: ρ)).bindS fun r ρ1 => nx1 (setSl ρ1 i r.sl) := rfl
@[simp] theorem ap_asg (o : O D) (g : D → Rho → Option Rho) : oAsg o g (z :: ρ) = (o (z :: ρ)).bindS fun d ρ1 => nx1 (g d ρ1) := rfl
@[simp] theorem ap_for (oi : O (List D)) (g : D → Rho → Option Rho) (b : Os) : oFor oi g b (z :: ρ) = (oi (z :: ρ)).bindS fun ds ρ1 => forL g b ds ρ1 := rfl
@[simp] theorem ap_itm (o : O Va) : oItm o (z :: ρ) = (o (z :: ρ)).bind itm1 := rfl
@[simp] theorem ap_range (o : O (List D)) : oRange o (z :: ρ) = (o (z :: ρ)).bind rg1 := rfl
@[simp] theorem ap_range2 (o : O (List D)) : oRange2 o (z :: ρ) = (o (z :: ρ)).bind rg2 := rfl
@[simp] theorem ap_range3 (o : O (List D)) : oRange3 o (z :: ρ) = (o (z :: ρ)).bind rg3 := rfl
@[simp] theorem ap_enumL (o : O D) : oEnumL o (z :: ρ) = (o (z :: ρ)).bind en1 := rfl
@[simp] theorem ap_zip (o : O (List D)) : oZip o (z :: ρ) = (o (z :: ρ)).bind zp1 := rfl
@[simp] theorem ap_lc (vs : List Nat) (oi : O (List D)) (g : D → Rho → Option Rho) (ot : O Bool) (oe : O D) : oLc vs oi g ot oe (z :: ρ) = (oi (z :: ρ)).bind (lc1 vs g ot oe) := rfl
@[simp] theorem ap_call (g : Fn) (oas : O (List Va)) : oCall g oas (z :: ρ) = (oas (z :: ρ)).bind (call1 g) := rfl
@[simp] theorem ap_newK : oNewK (z :: ρ) = .ok (.nw (.dk [])) (z :: ρ) := rfl
@[simp] theorem ap_newT : oNewT (z :: ρ) = .ok (.nw (.dt [])) (z :: ρ) := rfl
@[simp] theorem ap_ixA (oa ob : O Va) : oIxA oa ob (z :: ρ) = (oa (z :: ρ)).bind fun a ρ1 => (ob ρ1).bind fun b ρ2 => ixA1 a b ρ2 := rfl
@[simp] theorem ap_inA (neg : Bool) (oa ob : O Va) : oInA neg oa ob (z :: ρ) = (oa (z :: ρ)).bind fun a ρ1 => (ob ρ1).bind fun b ρ2 => inA1 neg a b ρ2 := rfl
@[simp] theorem ap_stA (k : Nat) (ov oi : O D) : oStA k ov oi (z :: ρ) = if isDic (z :: ρ)[k]? = true then oStD k ov oi (z :: ρ) else oStL k ov oi (z :: ρ) := rfl
@[simp] theorem ap_stD (k : Nat) (ov oi : O D) : oStD k ov oi (z :: ρ) = (ov (z :: ρ)).bindS fun d ρ1 => match ρ1[k]? with | some (.ow _ _) => (oi ρ1).bindS fun i ρ2 => stD1 k d i ρ2 | _ => .st := rfl
@[simp] theorem ap_stL (k : Nat) (ov oi : O D) : oStL k ov oi (z :: ρ) = (ov (z :: ρ)).bindS fun d ρ1 => match ρ1[k]? with
  | some (.ow _ (.li _)) => (oi ρ1).bindS fun i ρ2 => stL1 k d i ρ2
  | _ => .st := rfl
@[simp] theorem zp_var0 (d : D) : oVar 0 (.pu d :: ρ) = .ok (.pu d) (.pu d :: ρ) := rfl
theorem ap_c0 (d : D) : oC d [] = .ok d [] := rfl
end
section
variable (a b : Os) (o : O Rs) (d : O D)
@[simp] theorem ap0_seq : oSeq a b [] = (a []).then b := rfl
@[simp] theorem ap0_ret : oRet o [] = (o []).bindS fun r ρ1 => .rt r ρ1 := rfl
@[simp] theorem ap0_res : oRes d [] = (d []).bind fun d ρ1 => .ok (.pu d) ρ1 := rfl
@[simp] theorem ap0_pu : oPu d [] = (d []).bind fun d ρ1 => .ok (.pu d) ρ1 := rfl
@[simp] theorem ap0_frz : oFrz o [] = (o []).bind frz1 := rfl
@[simp] theorem ap0_c (x : D) : oC x [] = .ok x [] := rfl
end
end Ow
namespace Ow
open PySem L2
/-! ### more rules -/
theorem atI_nn {α : Type} {xs : List α} {i : Int} (h : 0 ≤ i) : L2.atI xs i = xs[i.toNat]? := by
  unfold L2.atI L2.ixN
  rw [if_pos h]
  by_cases h1 : i < xs.length
  · rw [if_pos h1]; rfl
  · rw [if_neg h1, List.getElem?_eq_none (by omega)]; rfl
@[simp] theorem atI_lit {α : Type} (xs : List α) (n : Nat) : L2.atI xs (no_index (OfNat.ofNat n) : Int) = xs[n]? := by
  have h := atI_nn (xs := xs) (i := (n : Int)) (Int.natCast_nonneg n)
  exact h
@[simp] theorem atI_0 {α : Type} (xs : List α) : L2.atI xs 0 = xs[0]? := atI_nn (Int.le_refl 0)
@[simp] theorem atI_1 {α : Type} (xs : List α) : L2.atI xs 1 = xs[1]? := atI_nn (by decide)
theorem atI_cast {α : Type} (xs : List α) (n : Nat) : L2.atI xs (n : Int) = xs[n]? := by
  rw [atI_nn (Int.natCast_nonneg n)]
  rfl
@[simp] theorem rdV_rf (ρ : Rho) (i : Nat) : rdV ρ (.rf i) = match ρ[i]? with | some (.ow _ (.li ds)) => some (.list ds) | _ => none := rfl
theorem bin1_eq (f : D → D → Option Rs) (a b : Va) (ρ : Rho) : bin1 f a b ρ = match rdV ρ a, rdV ρ b with | some dx, some dy => (match f dx dy with | some r => .ok r ρ | none => .st) | _, _ => .st := rfl
@[simp] theorem bin1_rl (f : D → D → Option Rs) (i : Nat) (d : D) (ρ : Rho) : bin1 f (.rf i) (.pu d) ρ = match rdV ρ (.rf i) with | some dx => (match f dx d with | some r => .ok r ρ | none => .st) | none => .st := by
  rw [bin1_eq, rdV_pu]
  cases rdV ρ (.rf i) <;> rfl
@[simp] theorem bin1_lr (f : D → D → Option Rs) (i : Nat) (d : D) (ρ : Rho) : bin1 f (.pu d) (.rf i) ρ = match rdV ρ (.rf i) with | some dx => (match f d dx with | some r => .ok r ρ | none => .st) | none => .st := by
  rw [bin1_eq, rdV_pu]
  cases rdV ρ (.rf i) <;> rfl
@[simp] theorem ix_l (xs : List D) (i : Int) : fIx (.list xs) (.int i) = (L2.atI xs i).map .pu := rfl
@[simp] theorem ix_t (xs : List D) (i : Int) : fIx (.tuple xs) (.int i) = (L2.atI xs i).map .pu := rfl
@[simp] theorem f_add (i j : Int) : fAdd (.int i) (.int j) = some (.pu (.int (i + j))) := rfl
@[simp] theorem f_sub (i j : Int) : fSub (.int i) (.int j) = some (.pu (.int (i - j))) := rfl
@[simp] theorem f_mulX (i j : Int) : fMulX (.int i) (.int j) = if mulOk i j = true then some (.pu (.int (i * j))) else none := rfl
@[simp] theorem f_div (i j : Int) : fDiv (.int i) (.int j) = if divOk i j = true then some (.pu (.int (i / j))) else none := rfl
@[simp] theorem f_mod (i j : Int) : fMod (.int i) (.int j) = if 0 < j then some (.pu (.int (i % j))) else none := rfl
@[simp] theorem f_pow (i j : Int) : fPow (.int i) (.int j) = if 0 ≤ j ∧ j.natAbs ≤ 1000000 ∧ i.natAbs < 2 ^ 64 then some (.pu (.int (i ^ j.toNat))) else none := rfl
@[simp] theorem f_shl (i j : Int) : fShl (.int i) (.int j) = if 0 ≤ j ∧ j.natAbs ≤ 1000000 ∧ i.natAbs < 2 ^ 64 then some (.pu (.int (i * 2 ^ j.toNat))) else none := rfl
@[simp] theorem f_lt (i j : Int) : fLt (.int i) (.int j) = some (.pu (.bool (decide (i < j)))) := rfl
@[simp] theorem f_le (i j : Int) : fLe (.int i) (.int j) = some (.pu (.bool (decide (i ≤ j)))) := rfl
@[simp] theorem f_gt (i j : Int) : fGt (.int i) (.int j) = some (.pu (.bool (decide (j < i)))) := rfl
@[simp] theorem f_ge (i j : Int) : fGe (.int i) (.int j) = some (.pu (.bool (decide (j ≤ i)))) := rfl
@[simp] theorem f_neg (i : Int) : fNeg (.int i) = some (.pu (.int (-i))) := rfl
@[simp] theorem f_int2 (g : Int → Int → Int) (i j : Int) : fInt2 g (.int i) (.int j) = some (.pu (.int (g i j))) := rfl
@[simp] theorem f_intX (i : Int) : fIntX [.int i] = some (.pu (.int i)) := rfl
@[simp] theorem f_intXb (b : Bool) : fIntX [.bool b] = some (.pu (.int (if b then 1 else 0))) := by cases b <;> rfl
@[simp] theorem f_abs (i : Int) : fAbs [.int i] = some (.pu (.int (if i < 0 then -i else i))) := rfl
@[simp] theorem f_lenL (xs : List D) : fLen (.list xs) = some xs.length := rfl
@[simp] theorem f_lenT (xs : List D) : fLen (.tuple xs) = some xs.length := rfl
@[simp] theorem f_listL (xs : List D) : fList [.list xs] = some (.nw (.li xs)) := rfl
@[simp] theorem f_listT (xs : List D) : fList [.tuple xs] = some (.nw (.li xs)) := rfl
@[simp] theorem f_tupleL (xs : List D) : fTuple [.list xs] = some (.pu (.tuple xs)) := rfl
@[simp] theorem f_tupleT (xs : List D) : fTuple [.tuple xs] = some (.pu (.tuple xs)) := rfl
@[simp] theorem cb1_eq (f : List D → Option Rs) (as : List Va) (ρ : Rho) : cb1 f as ρ = match rdVs ρ as with | some ds => (match f ds with | some r => .ok r ρ | none => .st) | none => .st := rfl
theorem setSl_eq (ρ : Rho) (i : Nat) (s : Sl) : setSl ρ i s = match ρ[i]? with | some (.ow true _) => none | some _ => some (ρ.set i s) | none => none := rfl
theorem fnOf_eq (n : Nat) (b : Os) (as : List Sl) : fnOf n b as = match b (as ++ List.replicate (n - as.length) Sl.no) with
  | .nx ρ => .ret (.pu .none) (ρ.take as.length)
  | .rt r ρ => .ret r (ρ.take as.length)
  | _ => .st := rfl
@[simp] theorem aug_eq (i : Nat) (f : D → D → Option Rs) (o : O Va) (z : Sl) (ρ : Rho) : oAug i f o (z :: ρ) = match (z :: ρ)[i]? with | some (.pu x) => (o (z :: ρ)).bindS (aug1 i f x) | _ => .st := rfl
@[simp] theorem aug1_eq (i : Nat) (f : D → D → Option Rs) (x : D) (b : Va) (ρ : Rho) : aug1 i f x b ρ = match rdV ρ b with
  | some dy => (match f x dy with
    | some (.pu d) => nx1 (setSl ρ i (.pu d))
    | _ => .st)
  | none => .st := rfl
@[simp] theorem auL_eq (k : Nat) (f : D → D → Option Rs) (oi oe : O D) (z : Sl) (ρ : Rho) : oAuL k f oi oe (z :: ρ) = match (z :: ρ)[k]? with | some (.ow _ (.li _)) => (oi (z :: ρ)).bindS (auL2 k f oe) | _ => .st := rfl
@[simp] theorem auL2_eq (k : Nat) (f : D → D → Option Rs) (oe : O D) (j : Int) (ρ : Rho) : auL2 k f oe (.int j) ρ = match ρ[k]? with
  | some (.ow _ (.li ds)) => if 0 ≤ j then (match ds[j.toNat]? with
    | some x => (oe ρ).bindS fun d ρ1 => auL1 k f j.toNat x d ρ1
    | none => .st)
    else .st
  | _ => .st := by
  unfold auL2
  cases ρ[k]? with
  | none => rfl
  | some s =>
    cases s with
    | ow p c => cases c <;> rfl
    | _ => rfl
@[simp] theorem auL1_eq (k : Nat) (f : D → D → Option Rs) (j : Nat) (x d : D) (ρ : Rho) : auL1 k f j x d ρ = match ρ[k]? with
  | some (.ow p (.li ds)) => (match f x d with
    | some (.pu y) => if j < ds.length then .nx (ρ.set k (.ow p (.li (ds.set j y)))) else .st
    | _ => .st)
  | _ => .st := rfl
@[simp] theorem stL1_eq (k : Nat) (d : D) (j : Int) (ρ : Rho) : stL1 k d (.int j) ρ = match ρ[k]? with
  | some (.ow p (.li ds)) => (match stL ds (.int j) d with
    | some c => .nx (ρ.set k (.ow p c))
    | none => .st)
  | _ => .st := by
  unfold stL1
  rfl
theorem divOk_of {i j : Int} (h : 0 < j) (h2 : j < 2 ^ 64) : divOk i j = true := by
  unfold divOk
  refine decide_eq_true ⟨h, ?_⟩
  have : j.natAbs < 2 ^ 64 := by omega
  have := (Nat.log2_lt (by omega : j.natAbs ≠ 0)).mpr this
  omega
theorem divOk_of2 {i j : Int} (h : 0 < j) (h2 : j.natAbs.log2 < 9000) : divOk i j = true := decide_eq_true ⟨h, h2⟩
theorem mulOk_l {i j : Int} (h1 : -(2 ^ 64) < i) (h2 : i < 2 ^ 64) : mulOk i j = true := decide_eq_true (.inl (by omega))
theorem mulOk_r {i j : Int} (h1 : -(2 ^ 64) < j) (h2 : j < 2 ^ 64) : mulOk i j = true := decide_eq_true (.inr (by omega))
section
variable (z : Sl) (ρ : Rho)
@[simp] theorem mut_eq (i : Nat) (f : Ct → List D → Option (Ct × D)) (oas : O (List Va)) : oMut i f oas (z :: ρ) = match (z :: ρ)[i]? with | some (.ow _ (.li _)) => (oas (z :: ρ)).bind (mut1 i f) | _ => .st := rfl
@[simp] theorem mutK_eq (i : Nat) (f : Ct → List D → Option (Ct × D)) (oas : O (List D)) : oMutK i f oas (z :: ρ) = match (z :: ρ)[i]? with | some (.ow _ (.li _)) => (oas (z :: ρ)).bind (mutK1 i f) | _ => .st := rfl
@[simp] theorem mut1_eq (i : Nat) (f : Ct → List D → Option (Ct × D)) (as : List Va) : mut1 i f as (z :: ρ) = match (z :: ρ)[i]?, rdVs (z :: ρ) as with
  | some (.ow p c), some ds => (match f c ds with
    | some (c', d) => .ok d ((z :: ρ).set i (.ow p c'))
    | none => .st)
  | _, _ => .st := rfl
@[simp] theorem mutK1_eq (i : Nat) (f : Ct → List D → Option (Ct × D)) (ds : List D) : mutK1 i f ds (z :: ρ) = match (z :: ρ)[i]? with
  | some (.ow p c) => (match f c ds with
    | some (c', d) => .ok d ((z :: ρ).set i (.ow p c'))
    | none => .st)
  | _ => .st := rfl
@[simp] theorem call1_eq (g : Fn) (vas : List Va) : call1 g vas (z :: ρ) = match argsOf (z :: ρ) vas with
  | some as => if (rfs vas).Nodup then (match g as with
    | .st => .st
    | .ret r outs => .ok r (wb vas outs (z :: ρ))
    | .exc x outs => .ex x (wb vas outs (z :: ρ)))
    else .st
  | none => .st := rfl
@[simp] theorem call0_eq (g : Fn) (vas : List Va) : call1 g vas [] = match argsOf [] vas with
  | some as => if (rfs vas).Nodup then (match g as with
    | .st => .st
    | .ret r outs => .ok r (wb vas outs [])
    | .exc x outs => .ex x (wb vas outs []))
    else .st
  | none => .st := rfl
@[simp] theorem argOf_rf (i : Nat) : argOf (z :: ρ) (.rf i) = match (z :: ρ)[i]? with | some (.ow _ c) => some (.ow true c) | _ => none := rfl
@[simp] theorem setCt_cons (i : Nat) (c : Ct) : setCt (z :: ρ) i c = match (z :: ρ)[i]? with | some (.ow p _) => (z :: ρ).set i (.ow p c) | _ => z :: ρ := rfl
@[simp] theorem keep1_rf (i : Nat) : keep1 (.rf i) (z :: ρ) = match (z :: ρ)[i]? with | some (.ow false (.li ds)) => .ok (.list ds) ((z :: ρ).set i (.pu (.list ds))) | _ => .st := rfl
@[simp] theorem itm1_rf (i : Nat) : itm1 (.rf i) (z :: ρ) = match (z :: ρ)[i]? with | some (.ow false (.li ds)) => .ok ds ((z :: ρ).set i (.pu (.list ds))) | _ => .st := rfl
@[simp] theorem met1_eq (f : D → List D → Option Rs) (a : Va) (as : List Va) : met1 f a as (z :: ρ) = match rdV (z :: ρ) a, rdVs (z :: ρ) as with
  | some d, some ds => (match f d ds with
    | some r => .ok r (z :: ρ)
    | none => .st)
  | _, _ => .st := rfl
@[simp] theorem met1_eq0 (f : D → List D → Option Rs) (a : Va) (as : List Va) : met1 f a as [] = match rdV [] a, rdVs [] as with
  | some d, some ds => (match f d ds with
    | some r => .ok r []
    | none => .st)
  | _, _ => .st := rfl
@[simp] theorem ty1_pu (T : String) (d : D) (m : M Rs) (ρ : Rho) : ty1 T (.pu d) ρ m = if isTy T d = true then m else .st := rfl
@[simp] theorem isTy_s (x : Str) : isTy "str" (.str x) = true := by unfold isTy; exact beq_self_eq_true _
@[simp] theorem sl1_eq (a : Va) (lo hi : Option Int) : sl1 a lo hi (z :: ρ) = match rdV (z :: ρ) a with
  | some d => (match fSl d lo hi with
    | some r => .ok r (z :: ρ)
    | none => .st)
  | none => .st := rfl
@[simp] theorem gNm_eq (i : Nat) (d : D) : gNm i d (z :: ρ) = setSl (z :: ρ) i (.pu d) := rfl
@[simp] theorem gCn_eq (g : D → Rho → Option Rho) (gs : List D → Rho → Option Rho) (d : D) (r : List D) : gCn g gs (d :: r) (z :: ρ) = (g d (z :: ρ)).bind (gs r) := rfl
@[simp] theorem gNl_eq : gNl [] ρ = some ρ := rfl
@[simp] theorem gTp_t (n : Nat) (gs : List D → Rho → Option Rho) (ds : List D) : gTp n gs (.tuple ds) ρ = if ds.length = n then gs ds ρ else none := rfl
@[simp] theorem gTp_k (n : Nat) (gs : List D → Rho → Option Rho) (ds : List D) : gTp n gs (.dict [(.bool true, .tuple ds)]) ρ = if ds.length = n then gs ds ρ else none := rfl
@[simp] theorem rg1_eq (j : Int) : rg1 [.int j] ρ = if j.natAbs < 4611686018427387904 then .ok (rangeD 0 j.toNat) ρ else .st := rfl
@[simp] theorem rg2_eq (i j : Int) : rg2 [.int i, .int j] ρ = if i.natAbs < 4611686018427387904 ∧ j.natAbs < 4611686018427387904 then .ok (rangeD i (j - i).toNat) ρ else .st := rfl
@[simp] theorem en1_eq (ds : List D) : en1 (.list ds) ρ = .ok (enumD 0 ds) ρ := rfl
@[simp] theorem zp1_l (xs ys : List D) : zp1 [.list xs, .list ys] ρ = .ok (pairsD xs ys) ρ := rfl
@[simp] theorem zp1_t (xs ys : List D) : zp1 [.tuple xs, .tuple ys] ρ = .ok (pairsD xs ys) ρ := rfl
@[simp] theorem isi1_eq (T : String) (d : D) : isi1 T (.pu d) ρ = match tyName d with
  | some n => (match L2.kitB n T with
    | some b => .ok (.pu (.bool b)) ρ
    | none => .st)
  | none => .st := rfl
end
@[simp] theorem f_app (xs : List D) (d : D) : fAppend (.li xs) [d] = if xs.length < 16000000 then some (.li (xs ++ [d]), .none) else none := rfl
@[simp] theorem f_ext (xs ys : List D) : fExtend (.li xs) [.list ys] = if xs.length + ys.length ≤ 16000000 then some (.li (xs ++ ys), .none) else none := rfl
@[simp] theorem f_popAt (xs : List D) (i : Int) : fPopAt (.li xs) [.int i] = if 0 ≤ i ∧ i.natAbs < 4611686018427387904 then (xs[i.toNat]?).map fun d => (.li (xs.eraseIdx i.toNat), d) else none := rfl
@[simp] theorem f_lenS (x : Str) : fLen (.str x) = if x.length ≤ 16000000 then some x.length else none := rfl
@[simp] theorem f_addS (i j : Str) : fAdd (.str i) (.str j) = if i.length + j.length ≤ 16000000 then some (.pu (.str (i ++ j))) else none := rfl
@[simp] theorem f_addL (xs ys : List D) : fAdd (.list xs) (.list ys) = if xs.length + ys.length ≤ 16000000 then some (.nw (.li (xs ++ ys))) else none := rfl
@[simp] theorem f_addT (xs ys : List D) : fAdd (.tuple xs) (.tuple ys) = if xs.length + ys.length ≤ 16000000 then some (.pu (.tuple (xs ++ ys))) else none := rfl
@[simp] theorem f_mulS (a : Str) (n : Int) : fMulX (.str a) (.int n) = if mulSok a n = true then some (.pu (.str (repT a n))) else none := rfl
@[simp] theorem ix_s (x : Str) (i : Int) : fIx (.str x) (.int i) = if x.length ≤ 16000000 then (L2.atI x.cps.toList i).map fun c => .pu (.str ⟨#[c]⟩) else none := rfl
@[simp] theorem f_slL (xs : List D) (lo hi : Option Int) : fSl (.list xs) lo hi = some (.nw (.li (cutD xs lo hi))) := rfl
@[simp] theorem f_slT (xs : List D) (lo hi : Option Int) : fSl (.tuple xs) lo hi = some (.pu (.tuple (cutD xs lo hi))) := rfl
@[simp] theorem f_slS (x : Str) (lo hi : Option Int) : fSl (.str x) lo hi = if x.length ≤ 16000000 then some (.pu (.str (cutS x lo hi))) else none := rfl
@[simp] theorem f_inS (neg : Bool) (x y : Str) : fIn neg (.str x) (.str y) = some (.pu (.bool (if neg then !inT x y else inT x y))) := rfl
@[simp] theorem f_join (a : Str) (ys : List Str) : fJoin (.str a) [.list (ys.map PyData.str)] = if (ys.map (·.length)).sum + ys.length * a.length ≤ 16000000 then some (.pu (.str (Txt.join a ys))) else none := by
  simp [fJoin]
@[simp] theorem f_split (a b : Str) : fSplit (.str a) [.str b] = if (b.length == 0) = false ∧ a.length + 2 ≤ 16000000 then some (.nw (.li ((Txt.split a b).map PyData.str))) else none := rfl
@[simp] theorem f_str (i : Int) : fStr1 [.int i] = if i.natAbs.log2 < 1920 then some (.pu (.str (toString i : String))) else none := rfl
@[simp] theorem f_intS (a : Str) : fIntX [.str a] = if a.length ≤ 640 then (PySem.intText? a).map fun n => .pu (.int n) else none := rfl
@[simp] theorem f_all (bs : List Bool) : fAll [.list (bs.map PyData.bool)] = some (.pu (.bool (bs.all id))) := by
  show (boolsOf (bs.map PyData.bool)).map (fun bs => Rs.pu (.bool (bs.all id))) = _
  rw [boolsOf_map]
  rfl
end Ow
namespace Ow
open PySem L2
/-! ### loops, by invariants -/
theorem lcL_filter {α : Type} {vs : List Nat} {g : D → Rho → Option Rho} {ot : O Bool} {oe : O D} {ρ : Rho} {k : α → D} {p : α → Bool} {f : α → D} : ∀ {l : List α},
    (∀ a ∈ l, ∃ ρ1 ρ2, g (k a) ρ = some ρ1 ∧ ot ρ1 = .ok (p a) ρ2 ∧ (p a = true → ∃ ρ3, oe ρ2 = .ok (f a) ρ3 ∧ wipeR ρ3 vs = ρ) ∧ (p a = false → wipeR ρ2 vs = ρ)) → lcL vs g ot oe (l.map k) ρ = .ok ((l.filter p).map f) ρ
  | [], _ => rfl
  | a :: l, h => by
    obtain ⟨ρ1, ρ2, h1, h2, h3, h4⟩ := h a (List.mem_cons_self)
    have ih := lcL_filter (l := l) fun d hd => h d (List.mem_cons_of_mem _ hd)
    rw [List.map_cons, lcL_cons, h1]
    dsimp only
    rw [h2]
    cases hp : p a with
    | true =>
      obtain ⟨ρ3, h5, h6⟩ := h3 hp
      dsimp only
      rw [h5]
      dsimp only
      rw [h6, ih, M.bind_ok, List.filter_cons_of_pos hp, List.map_cons]
    | false =>
      dsimp only
      rw [h4 hp, ih, List.filter_cons_of_neg (by rw [hp]; exact Bool.false_ne_true)]
theorem lcL_map {α : Type} {vs : List Nat} {g : D → Rho → Option Rho} {oe : O D} {ρ : Rho} {k f : α → D} {l : List α}
    (h : ∀ a ∈ l, ∃ ρ1 ρ3, g (k a) ρ = some ρ1 ∧ oe ρ1 = .ok (f a) ρ3 ∧ wipeR ρ3 vs = ρ) : lcL vs g oYes oe (l.map k) ρ = .ok (l.map f) ρ := by
  rw [lcL_filter (p := fun _ => true) (f := f)]
  · rw [List.filter_eq_self.mpr (fun _ _ => rfl)]
  · intro d hd
    obtain ⟨ρ1, ρ3, h1, h2, h3⟩ := h d hd
    exact ⟨ρ1, ρ1, h1, rfl, fun _ => ⟨ρ3, h2, h3⟩, fun q => by cases q⟩
theorem lcL_inv {vs : List Nat} {g : D → Rho → Option Rho} {oe : O D} {P : D → Prop} (I : Rho → Prop) : ∀ {ds : List D} {ρ : Rho},
    (∀ d ∈ ds, ∀ ρ, I ρ → ∃ y ρ1 ρ3, g d ρ = some ρ1 ∧ oe ρ1 = .ok y ρ3 ∧ P y ∧ I (wipeR ρ3 vs)) → I ρ → ∃ ys ρ', lcL vs g oYes oe ds ρ = .ok ys ρ' ∧ I ρ' ∧ ys.length = ds.length ∧ ∀ y ∈ ys, P y
  | [], ρ, _, hi => ⟨[], ρ, rfl, hi, rfl, fun y hy => by cases hy⟩
  | d :: ds, ρ, h, hi => by
    obtain ⟨y, ρ1, ρ3, h1, h2, h3, h4⟩ := h d List.mem_cons_self ρ hi
    obtain ⟨ys, ρ', h5, h6, h7, h8⟩ := lcL_inv I (ds := ds) (fun d hd => h d (List.mem_cons_of_mem _ hd)) h4
    refine ⟨y :: ys, ρ', ?_, h6, by rw [List.length_cons, List.length_cons, h7], fun z hz => ?_⟩
    · rw [lcL_cons, h1]
      dsimp only
      rw [oYes_eq]
      dsimp only
      rw [h2]
      dsimp only
      rw [h5, M.bind_ok]
    · rcases List.mem_cons.mp hz with rfl | hz
      · exact h3
      · exact h8 z hz
/-- a loop that runs to its end -/
theorem forL_inv {g : D → Rho → Option Rho} {b : Os} (I : List D → Rho → Prop) : ∀ {ds : List D} {ρ : Rho},
    (∀ d r ρ, d ∈ ds → I (d :: r) ρ → ∃ ρ1 ρ2, g d ρ = some ρ1 ∧ (b ρ1 = .nx ρ2 ∨ b ρ1 = .ct ρ2) ∧ I r ρ2) → I ds ρ → ∃ ρ', forL g b ds ρ = .nx ρ' ∧ I [] ρ'
  | [], ρ, _, hi => ⟨ρ, rfl, hi⟩
  | d :: ds, ρ, h, hi => by
    obtain ⟨ρ1, ρ2, h1, h2, h3⟩ := h d ds ρ List.mem_cons_self hi
    obtain ⟨ρ', h5, h6⟩ := forL_inv I (ds := ds) (fun d r ρ hd => h d r ρ (List.mem_cons_of_mem _ hd)) h3
    refine ⟨ρ', ?_, h6⟩
    rw [forL_cons, h1]
    dsimp only
    rcases h2 with h2 | h2 <;> rw [h2] <;> exact h5
theorem forL_all {g : D → Rho → Option Rho} {b : Os} (I : Rho → Prop) {ds : List D} {ρ : Rho}
    (h : ∀ d ∈ ds, ∀ ρ, I ρ → ∃ ρ1 ρ2, g d ρ = some ρ1 ∧ b ρ1 = .nx ρ2 ∧ I ρ2) (hi : I ρ) : ∃ ρ', forL g b ds ρ = .nx ρ' ∧ I ρ' :=
  forL_inv (fun _ => I) (fun d r ρ hd hi => by obtain ⟨ρ1, ρ2, h1, h2, h3⟩ := h d hd ρ hi; exact ⟨ρ1, ρ2, h1, .inl h2, h3⟩) hi
theorem whl_inv {c : O Bool} {b : Os} (I E : Rho → Prop) (m : Rho → Nat) (h : ∀ ρ, I ρ → (∃ ρ1, c ρ = .ok false ρ1 ∧ E ρ1) ∨ (∃ ρ1 ρ2, c ρ = .ok true ρ1 ∧ (b ρ1 = .nx ρ2 ∨ b ρ1 = .ct ρ2) ∧ I ρ2 ∧ m ρ2 < m ρ)) :
    ∀ (n : Nat) (ρ : Rho), I ρ → m ρ < n → ∃ ρ', whl c b n ρ = .nx ρ' ∧ E ρ'
  | 0, ρ, _, hn => absurd hn (Nat.not_lt_zero _)
  | n + 1, ρ, hi, hn => by
    rw [whl_succ]
    rcases h ρ hi with ⟨ρ1, h1, h2⟩ | ⟨ρ1, ρ2, h1, h2, h3, h4⟩
    · rw [h1]
      exact ⟨ρ1, rfl, h2⟩
    · obtain ⟨ρ', h5, h6⟩ := whl_inv I E m h n ρ2 h3 (by omega)
      refine ⟨ρ', ?_, h6⟩
      rw [h1, M.bindS_ok, if_pos rfl]
      rcases h2 with h2 | h2 <;> rw [h2] <;> exact h5
theorem while_inv {c : O Bool} {b : Os} (I E : Rho → Prop) (m : Rho → Nat) {ρ : Rho} (hi : I ρ) (h : ∀ ρ, I ρ → (∃ ρ1, c ρ = .ok false ρ1 ∧ E ρ1) ∨ (∃ ρ1 ρ2, c ρ = .ok true ρ1 ∧ (b ρ1 = .nx ρ2 ∨ b ρ1 = .ct ρ2) ∧ I ρ2 ∧ m ρ2 < m ρ)) :
    ∃ ρ', oWhile c b ρ = .nx ρ' ∧ E ρ' := by
  obtain ⟨ρ', h1, h2⟩ := whl_inv I E m h (m ρ + 1) ρ hi (Nat.lt_succ_self _)
  exact ⟨ρ', oWhile_is _ h1 (by intro q; cases q), h2⟩
/-! ### data that compares -/
theorem lc1_eq (vs : List Nat) (g : D → Rho → Option Rho) (ot : O Bool) (oe : O D) (ds : List D) (ρ1 : Rho) : lc1 vs g ot oe ds ρ1 = if okW ρ1 vs = true ∧ ds.length ≤ 16000000 then lcE vs ρ1 (lcL vs g ot oe ds (wipeR ρ1 vs)) else .st := rfl
theorem inT_one (c : Nat) (y : Str) : inT ⟨#[c]⟩ y = decide (c ∈ y.cps.toList) := rfl
/-- a slot that may be written over -/
def okS (s : Option Sl) : Bool := match s with
  | some (.ow true _) => false
  | some _ => true
  | none => false
@[simp] theorem okS_no : okS (some .no) = true := rfl
@[simp] theorem okS_pu (d : D) : okS (some (.pu d)) = true := rfl
@[simp] theorem okS_ow (c : Ct) : okS (some (.ow false c)) = true := rfl
theorem setSl_ok (ρ : Rho) (i : Nat) (s : Sl) : setSl ρ i s = if okS ρ[i]? = true then some (ρ.set i s) else none := by
  unfold setSl okS
  cases ρ[i]? with
  | none => rfl
  | some t =>
    cases t with
    | ow p c => cases p <;> rfl
    | _ => rfl
def Nw (s : Sl) : Prop := okS (some s) = true
theorem nw_pu (d : D) : Nw (.pu d) := rfl
theorem nw_no : Nw .no := rfl
/-! ### dicts -/
section
variable {κ : Type} [DecidableEq κ]
theorem valD_nil (k : κ) : valD ([] : List (κ × D)) k = none := rfl
theorem valD_cons (p : κ × D) (kvs : List (κ × D)) (k : κ) : valD (p :: kvs) k = if p.1 = k then some p.2 else valD kvs k := by
  unfold valD
  rw [List.find?_cons]
  by_cases h : p.1 = k <;> simp [h]
theorem valD_map (kvs : List (κ × D)) (k k' : κ) (v : D) : valD (kvs.map fun kv => if kv.1 = k then (kv.1, v) else kv) k' = if k' = k then (valD kvs k').map (fun _ => v) else valD kvs k' := by
  induction kvs with
  | nil => by_cases h : k' = k <;> simp [valD_nil, h]
  | cons p r ih =>
    obtain ⟨p1, p2⟩ := p
    rw [List.map_cons, valD_cons, valD_cons, ih]
    by_cases h : p1 = k
    · subst h
      rw [if_pos rfl]
      dsimp only
      by_cases h2 : p1 = k'
      · subst h2; simp
      · have : ¬ k' = p1 := fun e => h2 e.symm
        simp [h2, this]
    · rw [if_neg h]
      dsimp only
      by_cases h2 : p1 = k'
      · subst h2
        simp [h]
      · simp [h2]
theorem valD_app (kvs : List (κ × D)) (k k' : κ) (v : D) : valD (kvs ++ [(k, v)]) k' = match valD kvs k' with | some d => some d | none => if k = k' then some v else none := by
  induction kvs with
  | nil => simp [valD_cons, valD_nil]
  | cons p r ih =>
    rw [List.cons_append, valD_cons, valD_cons, ih]
    by_cases h : p.1 = k' <;> simp [h]
theorem any_val (kvs : List (κ × D)) (k : κ) : (kvs.any fun kv => decide (kv.1 = k)) = (valD kvs k).isSome := by
  induction kvs with
  | nil => rfl
  | cons p r ih =>
    rw [List.any_cons, valD_cons, ih]
    by_cases h : p.1 = k <;> simp [h]
theorem valD_put (kvs : List (κ × D)) (k k' : κ) (v : D) : valD (putD kvs k v) k' = if k' = k then some v else valD kvs k' := by
  unfold putD
  rw [any_val]
  by_cases h : (valD kvs k).isSome = true
  · rw [if_pos h, valD_map]
    by_cases h2 : k' = k
    · subst h2
      rw [if_pos rfl, if_pos rfl]
      obtain ⟨d, hd⟩ := Option.isSome_iff_exists.mp h
      rw [hd]; try rfl
    · rw [if_neg h2]; try rw [if_neg h2]
  · rw [if_neg h, valD_app]
    have hn : valD kvs k = none := by simpa using h
    by_cases h2 : k' = k
    · subst h2
      simp [hn]
    · have : ¬ k = k' := fun e => h2 e.symm
      rw [if_neg h2]
      cases valD kvs k' <;> simp [this]
theorem putD_len (kvs : List (κ × D)) (k : κ) (v : D) : (putD kvs k v).length ≤ kvs.length + 1 := by
  unfold putD
  split
  · rw [List.length_map]; omega
  · rw [List.length_append]; exact Nat.le_refl _
end
section
variable (z : Sl) (ρ : Rho)
@[simp] theorem ctOf_rf (i : Nat) : ctOf (z :: ρ) (.rf i) = match (z :: ρ)[i]? with | some (.ow _ c) => some c | _ => none := rfl
@[simp] theorem vaDic_rf (i : Nat) : vaDic (z :: ρ) (.rf i) = isDic (z :: ρ)[i]? := rfl
@[simp] theorem isDic_dk (p : Bool) (kvs : List (Key × D)) : isDic (some (.ow p (.dk kvs))) = true := rfl
@[simp] theorem isDic_dt (p : Bool) (kvs : List (List Key × D)) : isDic (some (.ow p (.dt kvs))) = true := rfl
@[simp] theorem isDic_li (p : Bool) (xs : List D) : isDic (some (.ow p (.li xs))) = false := rfl
@[simp] theorem isDic_pu (d : D) : isDic (some (.pu d)) = false := rfl
@[simp] theorem dGet_dk (kvs : List (Key × D)) (k : D) : dGet (.dk kvs) k = (keyOf k).map (valD kvs) := rfl
@[simp] theorem dGet_dt (kvs : List (List Key × D)) (k : D) : dGet (.dt kvs) k = (tkOf k).map (valD kvs) := rfl
@[simp] theorem keyOf_s (x : Str) : keyOf (.str x) = some (.inr x) := rfl
@[simp] theorem keyOf_i (i : Int) : keyOf (.int i) = some (.inl i) := rfl
@[simp] theorem dPut_dk (kvs : List (Key × D)) (k v : D) : dPut (.dk kvs) k v = if kvs.length < 16000000 then (keyOf k).map fun k => .dk (putD kvs k v) else none := rfl
@[simp] theorem dPut_dt (kvs : List (List Key × D)) (k v : D) : dPut (.dt kvs) k v = if kvs.length < 16000000 then (tkOf k).map fun k => .dt (putD kvs k v) else none := rfl
@[simp] theorem stD1_eq (k : Nat) (d i : D) : stD1 k d i (z :: ρ) = match (z :: ρ)[k]? with
  | some (.ow p c) => (match dPut c i d with
    | some c' => .nx ((z :: ρ).set k (.ow p c'))
    | none => .st)
  | _ => .st := rfl
@[simp] theorem inA1_rf (neg : Bool) (a : Va) (i : Nat) : inA1 neg a (.rf i) (z :: ρ) = if isDic (z :: ρ)[i]? = true then din1 neg a (.rf i) (z :: ρ) else bin1 (fIn neg) a (.rf i) (z :: ρ) := rfl
@[simp] theorem din1_eq (neg : Bool) (a b : Va) : din1 neg a b (z :: ρ) = match rdV (z :: ρ) a, ctOf (z :: ρ) b with
  | some k, some c => (match dGet c k with
    | some o => .ok (.pu (.bool (if neg then !o.isSome else o.isSome))) (z :: ρ)
    | none => .st)
  | _, _ => .st := rfl
@[simp] theorem ixA1_rf (b : Va) (i : Nat) : ixA1 (.rf i) b (z :: ρ) = if isDic (z :: ρ)[i]? = true then dix1 (.rf i) b (z :: ρ) else bin1 fIx (.rf i) b (z :: ρ) := rfl
@[simp] theorem dix1_eq (a b : Va) : dix1 a b (z :: ρ) = match ctOf (z :: ρ) a, rdV (z :: ρ) b with
  | some c, some k => (match dGet c k with
    | some (some d) => .ok (.pu d) (z :: ρ)
    | _ => .st)
  | _, _ => .st := rfl
@[simp] theorem f_inK (neg : Bool) (x : D) (ys : List D) : fIn neg x (.dict [(.bool true, .tuple ys)]) = if flatD x = true ∧ ys.all flatD = true then some (.pu (.bool (if neg then !inD x ys else inD x ys))) else none := by cases x <;> rfl
@[simp] theorem f_inL (neg : Bool) (x : D) (ys : List D) : fIn neg x (.list ys) = if flatD x = true ∧ ys.all flatD = true then some (.pu (.bool (if neg then !inD x ys else inD x ys))) else none := by cases x <;> rfl
@[simp] theorem f_inTu (neg : Bool) (x : D) (ys : List D) : fIn neg x (.tuple ys) = if flatD x = true ∧ ys.all flatD = true then some (.pu (.bool (if neg then !inD x ys else inD x ys))) else none := by cases x <;> rfl
end
theorem rg1_nat {n : Nat} (h : n ≤ 1000000) (ρ : Rho) : rg1 [.int (n : Int)] ρ = .ok (rangeD 0 n) ρ := by
  unfold rg1
  dsimp only
  rw [if_pos (by omega)]
  rfl
theorem rg1_int {n : Int} (h0 : 0 ≤ n) (h : n ≤ 1000000) (ρ : Rho) : rg1 [.int n] ρ = .ok (rangeD 0 n.toNat) ρ := by
  unfold rg1
  dsimp only
  rw [if_pos (by omega)]
theorem rangeD_map (n : Nat) : rangeD 0 n = (List.range n).map fun k => .int ((k : Nat) : Int) := by
  unfold rangeD
  refine List.map_congr_left fun k _ => ?_
  rw [Int.zero_add]
theorem rangeD_length (lo : Int) (n : Nat) : (rangeD lo n).length = n := by unfold rangeD; simp
end Ow
namespace Ow
open PySem PySem.W PySem.Spec PyProof.Rows L2
/-! ### max, min of a tuple of ints -/
theorem reads_ints {h : Heap} : ∀ {ns : List Int} {us : List Value}, Vals (ns.map V.int) us → ReadsAll h us (ns.map PyData.int) []
  | [], _, .nil => .nil
  | n :: ns, _, .cons r rs => by
    obtain ⟨t, rfl⟩ := r
    exact .cons (.int n t) (reads_ints rs)
theorem depth_ints : ∀ ns : List Int, PyData.depthAll (ns.map PyData.int) = 0
  | [] => rfl
  | n :: ns => by show max 0 (PyData.depthAll (ns.map PyData.int)) = 0; rw [depth_ints ns]; rfl
theorem alikeInts (ns : List Int) : AlikeAll (ns.map PyData.int) := by
  refine ⟨fun x hx y hy => ?_, fun x hx => ?_⟩
  · obtain ⟨i, _, rfl⟩ := List.mem_map.mp hx
    obtain ⟨j, _, rfl⟩ := List.mem_map.mp hy
    rfl
  · obtain ⟨i, _, rfl⟩ := List.mem_map.mp hx
    intro e
    cases e
def rMaxT (K : PySem.W.Frag) : List V → Hp → VK → Prop := fun vs H Q => ∃ (a : Addr) (n : Int) (ns : List Int), vs = [V.ref a] ∧ SqT K H a ((n :: ns).map V.int) ∧ Q (.int (ns.foldl max n)) H
def rMinT (K : PySem.W.Frag) : List V → Hp → VK → Prop := fun vs H Q => ∃ (a : Addr) (n : Int) (ns : List Int), vs = [V.ref a] ∧ SqT K H a ((n :: ns).map V.int) ∧ Q (.int (ns.foldl min n)) H
section
variable {X : Cx}
theorem cr_maxT (hc : X.calm = true) (hu : X.A.units + 64 < cLine) : CallR X (.builtin "max") (rMaxT X.K) := by
  intro pins s σ H vs us Q I r h
  obtain ⟨a, n, ns, rfl, hs, q⟩ := h
  obtain ⟨its, rv, hl, _⟩ := I.tuple hs
  rw [Vals.ref1 r]
  have rd : ReadsAll s.heap its.toArray.toList (.int n :: ns.map PyData.int) [] := reads_ints (ns := n :: ns) rv
  refine max_tuple_data (I.ok.hd hc) hl rd (alikeInts (n :: ns)) (by
    have e := depth_ints (n :: ns)
    show X.A.units + 1 + PyData.depthAll ((n :: ns).map PyData.int) < cLine
    rw [e]; omega) fun i v h' tk bs hv hr hk => ?_
  rw [maxD_ints] at hr
  cases hr
  exact ⟨.int _, H, I.kept hk, ⟨_, rfl⟩, q⟩
theorem cr_minT (hc : X.calm = true) (hu : X.A.units + 64 < cLine) : CallR X (.builtin "min") (rMinT X.K) := by
  intro pins s σ H vs us Q I r h
  obtain ⟨a, n, ns, rfl, hs, q⟩ := h
  obtain ⟨its, rv, hl, _⟩ := I.tuple hs
  rw [Vals.ref1 r]
  have rd : ReadsAll s.heap its.toArray.toList (.int n :: ns.map PyData.int) [] := reads_ints (ns := n :: ns) rv
  refine min_tuple_data (I.ok.hd hc) hl rd (alikeInts (n :: ns)) (by
    have e := depth_ints (n :: ns)
    show X.A.units + 1 + PyData.depthAll ((n :: ns).map PyData.int) < cLine
    rw [e]; omega) fun i v h' tk bs hv hr hk => ?_
  rw [minD_ints] at hr
  cases hr
  exact ⟨.int _, H, I.kept hk, ⟨_, rfl⟩, q⟩
end
def fMax1X : List D → Option Rs
  | [.tuple xs] => match intsOf xs with
    | some (n :: ns) => some (.pu (.int (ns.foldl max n)))
    | _ => none
  | ds => fMax1 ds
def fMin1X : List D → Option Rs
  | [.tuple xs] => match intsOf xs with
    | some (n :: ns) => some (.pu (.int (ns.foldl min n)))
    | _ => none
  | ds => fMin1 ds
section
variable {K : PySem.W.Frag}
theorem tups_arg {Z H : Hp} {vs : List V} {xs : List D} {ns : List Int} (e : Same Z H) (r : Paired (Rdb K Z H) vs [.tuple xs]) (h : intsOf xs = some ns) : ∃ a, vs = [.ref a] ∧ SqT K H a (ns.map V.int) := by
  obtain ⟨v, rfl, r1⟩ := Paired.one r
  obtain ⟨b, ws, rfl, hb, rb, _⟩ := r1.tup e
  rw [intsOf_eq h] at rb
  rw [rb.of_ints] at hb
  exact ⟨b, rfl, SqT.of hb⟩
theorem callS_max1X : CallS K (fun x H Q => rMax K x H Q ∨ rMaxT K x H Q) fMax1X := by
  intro vs ds R Z H Q e r hf k
  unfold fMax1X at hf
  split at hf
  · split at hf
    · rename_i n ns q
      cases hf
      obtain ⟨a, rfl, ha⟩ := tups_arg e r q
      exact .inr ⟨a, n, ns, rfl, ha, k _ Z H (.refl e) (.int _)⟩
    · cases hf
  · exact .inl (callS_max1 vs _ R Z H Q e r hf k)
theorem callS_min1X : CallS K (fun x H Q => rMin K x H Q ∨ rMinT K x H Q) fMin1X := by
  intro vs ds R Z H Q e r hf k
  unfold fMin1X at hf
  split at hf
  · split at hf
    · rename_i n ns q
      cases hf
      obtain ⟨a, rfl, ha⟩ := tups_arg e r q
      exact .inr ⟨a, n, ns, rfl, ha, k _ Z H (.refl e) (.int _)⟩
    · cases hf
  · exact .inl (callS_min1 vs _ R Z H Q e r hf k)
end
section
variable {X : Cx} {G : Gm} {B : Wish} {p pos : Pos} {e : Expr} {es : List Expr} {oas : O (List Va)} {k : Nat}
theorem zb_max1X (hr : Room k X.A) (hc : X.calm = true) (hg : Gl X "max") (hm : X.mg "max" = none) (ha : AD X G B (e :: es) oas) (he : starEach (e :: es) X.env = (false, eval e X.env) :: starEach es X.env := by rfl) (hpl : (backTo pos (starEach es X.env)).any (·.1) = false := by rfl) : RD X G B (.Call (.Name "max" p) (e :: es) [] pos) (oCB fMax1X oas) :=
  rd_callB (CallR.or (cr_max hc) (cr_maxT hc hr.units)) callS_max1X hg hm boot_max ha (by decide) (by decide) he hpl
theorem zb_min1X (hr : Room k X.A) (hc : X.calm = true) (hg : Gl X "min") (hm : X.mg "min" = none) (ha : AD X G B (e :: es) oas) (he : starEach (e :: es) X.env = (false, eval e X.env) :: starEach es X.env := by rfl) (hpl : (backTo pos (starEach es X.env)).any (·.1) = false := by rfl) : RD X G B (.Call (.Name "min" p) (e :: es) [] pos) (oCB fMin1X oas) :=
  rd_callB (CallR.or (cr_min hc) (cr_minT hc hr.units)) callS_min1X hg hm boot_min ha (by decide) (by decide) he hpl
end
@[simp] theorem f_max1T (n : Int) (ns : List Int) : fMax1X [.tuple ((n :: ns).map PyData.int)] = some (.pu (.int (ns.foldl max n))) := by
  show (match intsOf ((n :: ns).map PyData.int) with | some (n :: ns) => some (Rs.pu (.int (ns.foldl max n))) | _ => none) = _
  rw [intsOf_map]
@[simp] theorem f_min1T (n : Int) (ns : List Int) : fMin1X [.tuple ((n :: ns).map PyData.int)] = some (.pu (.int (ns.foldl min n))) := by
  show (match intsOf ((n :: ns).map PyData.int) with | some (n :: ns) => some (Rs.pu (.int (ns.foldl min n))) | _ => none) = _
  rw [intsOf_map]
end Ow
namespace Ow
open PySem PySem.Spec PyProof.Rows L2
/-! ### a tuple once, or many times -/
theorem tup_mul1 (l : Addr) (items : Array Value) (n : Nat) (dd : Option Addr) (sl : Array (Option Value)) (u : Tok) :
    Meets (Builtin.«tuple.__mul__» ⟨[.ref l, .int 1 u], []⟩) (fun _ R s => s.heap.get? l = some { cls := .type "tuple", dict := dd, data := .seq items n, slots := sl } ∧ R (.ok (.ret (Value.ref l))) s) :=
  .of_wp fun prog w A R s h => by
    obtain ⟨hp, g, d, tk, os⟩ := s
    obtain ⟨hl, h⟩ := h
    have f1 := AutoSeq1.idx_int
    have c0 : (decide ((1 : Int) < -(2 ^ 63)) || decide ((1 : Int) ≥ 2 ^ 63)) = false := by decide
    have c1 : (items.isEmpty || (1 : Int) == 1) = true := by rw [show ((1 : Int) == 1) = true from rfl, Bool.or_true]
    wp_walk using wpAny_loadPart' hl
    repeat (first
      | (refine wpAny_ite_false (decide_eq_false (by rw [c0]; exact Bool.false_ne_true)) ?_; wp_walk using wpAny_loadPart' hl)
      | (refine wpAny_ite_true (decide_eq_true c1) ?_; wp_walk using wpAny_loadPart' hl))
    exact ⟨_, rfl, h⟩
abbrev rRep1 (K : PySem.W.Frag) : R2 := fun x y H Q => ∃ l xs, x = V.ref l ∧ y = V.int 1 ∧ SqT K H l xs ∧ Q (V.ref l) H
theorem op_rep1 {X : Cx} : OpR X (binaryOp .Mult) (rRep1 X.K) := by
  intro pins s σ H x y v u Q I rx ry h
  obtain ⟨l, xs, rfl, rfl, hT, q⟩ := h
  cases rx
  obtain ⟨t, rfl⟩ := ry
  obtain ⟨its, r, ⟨⟨cls, dd, data, sl⟩, ho, hc, n, hd⟩, hs⟩ := I.tuple hT
  simp only at hc hd
  subst hc hd
  exact wpAny_binaryOp_repeat_ref (T := "tuple") (U := "int") (by decide) ⟨_, ho, rfl⟩ (fun s' => typeIs_int s' 1 t) noFill_tuple_mul F.fills_int_mul F.slot_int_rmul repeat_tuple F.slot_int_index.lookup
    (call_meets F.slot_int_rmul (typeIs_int s 1 t) F.entry_int_rmul (F.args_int_rmul_2 _ _) (int_rmul_tuple 1 t l its.toArray n dd sl)
      ⟨ho, rfl, ⟨_, ho, rfl⟩, call_meets F.slot_tuple_mul ⟨_, ho, rfl⟩ F.entry_tuple_mul (F.args_tuple_mul_2 _ _) (tup_mul1 l its.toArray n dd sl t) ⟨ho, ⟨.ref l, H, I, rfl, q⟩⟩⟩)
def fMulY : D → D → Option Rs
  | .tuple xs, .int k => if k = 1 then some (.pu (.tuple xs)) else if xs ≠ [] ∧ 2 ≤ k ∧ k.natAbs ≤ 1000 ∧ xs.length ≤ 1000 then some (.pu (.tuple (List.replicate k.toNat xs).flatten)) else none
  | a, b => fMulX a b
theorem rp_rep {K : PySem.W.Frag} {Z : Hp} {vs : List V} {ds : List D} (r : RpAll K Z vs ds) (n : Nat) : RpAll K Z (List.replicate n vs).flatten (List.replicate n ds).flatten := by
  induction n with
  | zero => exact .nil
  | succ m ih => rw [List.replicate_succ, List.replicate_succ, List.flatten_cons, List.flatten_cons]; exact r.append ih
theorem binS_mulY {K : PySem.W.Frag} : BinS K (fun x y H Q => rRep1 K x y H Q ∨ (fun x y H Q => rRepT K x y H Q ∨ (fun x y H Q => rMulS x y H Q ∨ rMulAll x y H Q) x y H Q) x y H Q) fMulY := by
  intro x y dx dy R Z H Q e rx ry hf k
  unfold fMulY at hf
  split at hf
  · rename_i ds n
    obtain ⟨b, vs, rfl, hb, rb, qb⟩ := rx.tup e
    split at hf
    · rename_i h1
      subst h1
      cases hf
      exact .inl ⟨b, vs, rfl, ry.int, SqT.of hb, k _ Z H (.refl e) qb⟩
    · split at hf
      · rename_i h1 h2
        cases hf
        have hl := rb.length
        have hne : vs ≠ [] := fun q => h2.1 (by rw [q] at hl; exact List.eq_nil_of_length_eq_zero hl.symm)
        refine .inr (.inl ⟨b, n, vs, rfl, ry.int, SqT.of hb, hne, h2.2.1, by omega, by rw [hl]; exact h2.2.2.2, fun p hp => ?_⟩)
        have g := Grow.still e hp (.tup (List.replicate n.toNat vs).flatten)
        exact k _ _ _ g (.tup upd_same (RpAll.mono (rp_rep rb n.toNat) g.z))
      · cases hf
  · exact .inr (.inr (binS_mulX x y _ _ R Z H Q e rx ry hf k))
section
variable {X : Cx} {G : Gm} {B : Wish} {a b : Expr} {pos : Pos} {oa ob : O Va}
theorem rd_mulY (ha : ED X G B a oa) (hb : ED X G B b ob) : RD X G B (.BinOp a .Mult b pos) (oBin fMulY oa ob) := rd_bin (op_rep1.or (op_repT.or (op_mulS.or op_mulAll))) binS_mulY ha hb
end
@[simp] theorem fy_t (xs : List D) (k : Int) : fMulY (.tuple xs) (.int k) = if k = 1 then some (.pu (.tuple xs)) else if xs ≠ [] ∧ 2 ≤ k ∧ k.natAbs ≤ 1000 ∧ xs.length ≤ 1000 then some (.pu (.tuple (List.replicate k.toNat xs).flatten)) else none := rfl
@[simp] theorem fy_i (i j : Int) : fMulY (.int i) (.int j) = fMulX (.int i) (.int j) := rfl
@[simp] theorem fy_s (x : Str) (j : Int) : fMulY (.str x) (.int j) = fMulX (.str x) (.int j) := rfl
@[simp] theorem fy_l (xs : List D) (j : Int) : fMulY (.list xs) (.int j) = fMulX (.list xs) (.int j) := rfl
end Ow
namespace K09
open PySem PySem.Spec PyProof.Rows L2 Ow
def top (i : Nat) : Stmt := PySem.Challenge.pw_wiredossier_k09_word_values.main.body.getD i (.Pass ⟨0, 0, 0, 0⟩)
abbrev FnP (K : PySem.W.Frag) (x : Str) (st : Stmt) (f : Addr) (fd : FuncData) : Prop := FunD K x x (defArgs st) (defBody st) (defScope st) [] [] f fd
structure Mg (K : PySem.W.Frag) (mg : Str → Option Value) : Prop where
  f_abs : mg "abs" = none
  f_all : mg "all" = none
  f_bool : mg "bool" = none
  f_int : mg "int" = none
  f_isinstance : mg "isinstance" = none
  f_len : mg "len" = none
  f_list : mg "list" = none
  f_max : mg "max" = none
  f_min : mg "min" = none
  f_range : mg "range" = none
  f_sum : mg "sum" = none
  f_tuple : mg "tuple" = none
/-! plain_value: 0 op, 1 args, 2 width, 3 whole -/
abbrev s_plain_value : Stmt := top 1
abbrev N_plain_value : List Str := ["op", "args", "width", "whole"]
theorem sc_plain_value : FnScope ["op", "args", "width", "whole"] ["op", "args", "width"] (defScope s_plain_value) := ⟨rfl, rfl, rfl, by decide +kernel, rfl, by decide +kernel, by decide +kernel⟩
noncomputable def b_plain_value : Os := (oSeq (oSet 3 (oBin fSub (oPu (oFrz (oBin fShl (oPu (oC (.int 1))) (oVar 2)))) (oPu (oC (.int 1)))))
 (oSeq (oIfS (oTst (oBin fEq (oVar 0) (oPu (oC (.str "not")))))
 (oRet (oBin fSub (oVar 3) (oPu (oFrz (oBin fIx (oVar 1) (oPu (oC (.int 0))))))))
 oNext)
 (oSeq (oIfS (oTst (oBin fEq (oVar 0) (oPu (oC (.str "and")))))
 (oRet (oBin fAnd (oPu (oFrz (oBin fIx (oVar 1) (oPu (oC (.int 0)))))) (oPu (oFrz (oBin fIx (oVar 1) (oPu (oC (.int 1))))))))
 oNext)
 (oSeq (oIfS (oTst (oBin fEq (oVar 0) (oPu (oC (.str "or")))))
 (oRet (oBin fOr (oPu (oFrz (oBin fIx (oVar 1) (oPu (oC (.int 0)))))) (oPu (oFrz (oBin fIx (oVar 1) (oPu (oC (.int 1))))))))
 oNext)
 (oSeq (oIfS (oTst (oBin fEq (oVar 0) (oPu (oC (.str "xor")))))
 (oRet (oBin fXor (oPu (oFrz (oBin fIx (oVar 1) (oPu (oC (.int 0)))))) (oPu (oFrz (oBin fIx (oVar 1) (oPu (oC (.int 1))))))))
 oNext)
 (oSeq (oIfS (oTst (oBin fEq (oVar 0) (oPu (oC (.str "add")))))
 (oRet (oBin fAnd (oPu (oFrz (oBin fAdd (oPu (oFrz (oBin fIx (oVar 1) (oPu (oC (.int 0)))))) (oPu (oFrz (oBin fIx (oVar 1) (oPu (oC (.int 1))))))))) (oVar 3)))
 oNext)
 (oSeq (oIfS (oTst (oBin fEq (oVar 0) (oPu (oC (.str "sub")))))
 (oRet (oBin fAnd (oPu (oFrz (oBin fSub (oPu (oFrz (oBin fIx (oVar 1) (oPu (oC (.int 0)))))) (oPu (oFrz (oBin fIx (oVar 1) (oPu (oC (.int 1))))))))) (oVar 3)))
 oNext)
 (oSeq (oIfS (oTst (oBin fEq (oVar 0) (oPu (oC (.str "eq")))))
 (oRet (oRes (oKeep (oIf (oTst (oBin fEq (oPu (oFrz (oBin fIx (oVar 1) (oPu (oC (.int 0)))))) (oPu (oFrz (oBin fIx (oVar 1) (oPu (oC (.int 1)))))))) (oPu (oC (.int 1))) (oPu (oC (.int 0)))))))
 oNext)
 (oSeq (oIfS (oTst (oBin fEq (oVar 0) (oPu (oC (.str "lt")))))
 (oRet (oRes (oKeep (oIf (oTst (oBin fLt (oPu (oFrz (oBin fIx (oVar 1) (oPu (oC (.int 0)))))) (oPu (oFrz (oBin fIx (oVar 1) (oPu (oC (.int 1)))))))) (oPu (oC (.int 1))) (oPu (oC (.int 0)))))))
 oNext)
 (oRet (oRes (oKeep (oIf (oTst (oBin fGt (oPu (oFrz (oBin fIx (oVar 1) (oPu (oC (.int 0)))))) (oPu (oC (.int 0))))) (oPu (oC (.int 1))) (oPu (oC (.int 0))))))))))))))))
noncomputable def g_plain_value : Fn := fnOf 4 b_plain_value
theorem ok_plain_value {P : Program} {w : World} {K : PySem.W.Frag} {mg : Str → Option Value} {base : Heap} {f : Addr} {fd : FuncData} (M : Mg K mg) (F : FnP K "plain_value" s_plain_value f fd) : FnOk P w K mg base CX0 1 f fd ["op", "args", "width"] (spD K 3 g_plain_value) :=
  fn_ok F sc_plain_value (by decide) (fun cdv A outer s H E hr G =>
  (bd_cons (sd_set 3 (rd_sub (ed_pd (pd_rd (rd_shl (ed_pd pd_int) (ed_var 2)))) (ed_pd pd_int)) sc_plain_value.nd)
 (bd_cons (sd_if (td_ck (ck_eq hr) (ed_var 0) (ed_pd pd_str))
 (bd_one (sd_ret (rd_sub (ed_var 3) (ed_pd (pd_rd (rd_ix (ed_var 1) (ed_pd pd_int)))))))
 bd_nil)
 (bd_cons (sd_if (td_ck (ck_eq hr) (ed_var 0) (ed_pd pd_str))
 (bd_one (sd_ret (rd_band (ed_pd (pd_rd (rd_ix (ed_var 1) (ed_pd pd_int)))) (ed_pd (pd_rd (rd_ix (ed_var 1) (ed_pd pd_int)))))))
 bd_nil)
 (bd_cons (sd_if (td_ck (ck_eq hr) (ed_var 0) (ed_pd pd_str))
 (bd_one (sd_ret (rd_bor (ed_pd (pd_rd (rd_ix (ed_var 1) (ed_pd pd_int)))) (ed_pd (pd_rd (rd_ix (ed_var 1) (ed_pd pd_int)))))))
 bd_nil)
 (bd_cons (sd_if (td_ck (ck_eq hr) (ed_var 0) (ed_pd pd_str))
 (bd_one (sd_ret (rd_bxor (ed_pd (pd_rd (rd_ix (ed_var 1) (ed_pd pd_int)))) (ed_pd (pd_rd (rd_ix (ed_var 1) (ed_pd pd_int)))))))
 bd_nil)
 (bd_cons (sd_if (td_ck (ck_eq hr) (ed_var 0) (ed_pd pd_str))
 (bd_one (sd_ret (rd_band (ed_pd (pd_rd (rd_add (ed_pd (pd_rd (rd_ix (ed_var 1) (ed_pd pd_int)))) (ed_pd (pd_rd (rd_ix (ed_var 1) (ed_pd pd_int))))))) (ed_var 3))))
 bd_nil)
 (bd_cons (sd_if (td_ck (ck_eq hr) (ed_var 0) (ed_pd pd_str))
 (bd_one (sd_ret (rd_band (ed_pd (pd_rd (rd_sub (ed_pd (pd_rd (rd_ix (ed_var 1) (ed_pd pd_int)))) (ed_pd (pd_rd (rd_ix (ed_var 1) (ed_pd pd_int))))))) (ed_var 3))))
 bd_nil)
 (bd_cons (sd_if (td_ck (ck_eq hr) (ed_var 0) (ed_pd pd_str))
 (bd_one (sd_ret (rd_pd (pd_ed (ed_if (td_ck (ck_eq hr) (ed_pd (pd_rd (rd_ix (ed_var 1) (ed_pd pd_int)))) (ed_pd (pd_rd (rd_ix (ed_var 1) (ed_pd pd_int))))) (ed_pd pd_int) (ed_pd pd_int))))))
 bd_nil)
 (bd_cons (sd_if (td_ck (ck_eq hr) (ed_var 0) (ed_pd pd_str))
 (bd_one (sd_ret (rd_pd (pd_ed (ed_if (td_ck ck_lt (ed_pd (pd_rd (rd_ix (ed_var 1) (ed_pd pd_int)))) (ed_pd (pd_rd (rd_ix (ed_var 1) (ed_pd pd_int))))) (ed_pd pd_int) (ed_pd pd_int))))))
 bd_nil)
 (bd_one (sd_ret (rd_pd (pd_ed (ed_if (td_ck ck_gt (ed_pd (pd_rd (rd_ix (ed_var 1) (ed_pd pd_int)))) (ed_pd pd_int)) (ed_pd pd_int) (ed_pd pd_int))))))))))))))))
/-! word_value: 0 op, 1 args, 2 widths, 3 width, 4 place -/
abbrev s_word_value : Stmt := top 2
abbrev N_word_value : List Str := ["op", "args", "widths", "width", "place"]
theorem sc_word_value : FnScope ["op", "args", "widths", "width", "place"] ["op", "args", "widths", "width"] (defScope s_word_value) := ⟨rfl, rfl, rfl, by decide +kernel, rfl, by decide +kernel, by decide +kernel⟩
noncomputable def b_word_value : Os := (oSeq (oIfS (oTst (oBin fEq (oVar 0) (oPu (oC (.str "join")))))
 (oRet (oBin fAdd (oPu (oFrz (oBin fIx (oVar 1) (oPu (oC (.int 0)))))) (oPu (oFrz (oBin fShl (oPu (oFrz (oBin fIx (oVar 1) (oPu (oC (.int 1)))))) (oPu (oFrz (oBin fIx (oVar 2) (oPu (oC (.int 0)))))))))))
 oNext)
 (oSeq (oIfS (oTst (oBin fEq (oVar 0) (oPu (oC (.str "pick")))))
 (oRet (oIf (oTst (oBin fEq (oPu (oFrz (oBin fIx (oVar 1) (oPu (oC (.int 0)))))) (oPu (oC (.int 1))))) (oBin fIx (oVar 1) (oPu (oC (.int 1)))) (oBin fIx (oVar 1) (oPu (oC (.int 2))))))
 oNext)
 (oSeq (oIfS (oTst (oBin fEq (oVar 0) (oPu (oC (.str "read")))))
 (oRet (oIf (oTst (oBin fLt (oPu (oFrz (oBin fIx (oVar 1) (oPu (oC (.int 0)))))) (oPu (oFrz (oBin fSub (oPu (oFrz (oLen (oVar 1)))) (oPu (oC (.int 1)))))))) (oBin fIx (oVar 1) (oPu (oFrz (oBin fAdd (oPu (oC (.int 1))) (oPu (oFrz (oBin fIx (oVar 1) (oPu (oC (.int 0)))))))))) (oRes (oC (.int 0)))))
 oNext)
 (oSeq (oIfS (oTst (oBin fEq (oVar 0) (oPu (oC (.str "first")))))
 (oSeq (oFor (oRange3 (oCons (oC (.int 0)) (oCons (oFrz (oBin fSub (oPu (oFrz (oLen (oVar 1)))) (oPu (oC (.int 1))))) (oCons (oC (.int 2)) oNil)))) (gNm 4)
 (oIfS (oTst (oBin fEq (oPu (oFrz (oBin fIx (oVar 1) (oVar 4)))) (oPu (oC (.int 1)))))
 (oRet (oBin fIx (oVar 1) (oPu (oFrz (oBin fAdd (oVar 4) (oPu (oC (.int 1))))))))
 oNext))
 (oRet (oBin fIx (oVar 1) (oPu (oFrz (oUn fNeg (oPu (oC (.int 1)))))))))
 oNext)
 (oRet (oCall g_plain_value (oCons (oPu (oKeep (oVar 0))) (oCons (oPu (oKeep (oVar 1))) (oCons (oPu (oKeep (oVar 3))) oNil)))))))))
noncomputable def g_word_value : Fn := fnOf 5 b_word_value
theorem ok_word_value {P : Program} {w : World} {K : PySem.W.Frag} {mg : Str → Option Value} {base : Heap} {f : Addr} {fd : FuncData} (M : Mg K mg) (F : FnP K "word_value" s_word_value f fd) (c_plain_value : Cal P w K mg base 1 "plain_value" ["op", "args", "width"] g_plain_value) : FnOk P w K mg base CX0 2 f fd ["op", "args", "widths", "width"] (spD K 4 g_word_value) :=
  fn_ok F sc_word_value (by decide) (fun cdv A outer s H E hr G =>
  (bd_cons (sd_if (td_ck (ck_eq hr) (ed_var 0) (ed_pd pd_str))
 (bd_one (sd_ret (rd_add (ed_pd (pd_rd (rd_ix (ed_var 1) (ed_pd pd_int)))) (ed_pd (pd_rd (rd_shl (ed_pd (pd_rd (rd_ix (ed_var 1) (ed_pd pd_int)))) (ed_pd (pd_rd (rd_ix (ed_var 2) (ed_pd pd_int))))))))))
 bd_nil)
 (bd_cons (sd_if (td_ck (ck_eq hr) (ed_var 0) (ed_pd pd_str))
 (bd_one (sd_ret (rd_if (td_ck (ck_eq hr) (ed_pd (pd_rd (rd_ix (ed_var 1) (ed_pd pd_int)))) (ed_pd pd_int)) (rd_ix (ed_var 1) (ed_pd pd_int)) (rd_ix (ed_var 1) (ed_pd pd_int)))))
 bd_nil)
 (bd_cons (sd_if (td_ck (ck_eq hr) (ed_var 0) (ed_pd pd_str))
 (bd_one (sd_ret (rd_if (td_ck ck_lt (ed_pd (pd_rd (rd_ix (ed_var 1) (ed_pd pd_int)))) (ed_pd (pd_rd (rd_sub (ed_pd (pd_rd (rd_len rfl M.f_len (ed_var 1)))) (ed_pd pd_int))))) (rd_ix (ed_var 1) (ed_pd (pd_rd (rd_add (ed_pd pd_int) (ed_pd (pd_rd (rd_ix (ed_var 1) (ed_pd pd_int)))))))) (rd_pd pd_int))))
 bd_nil)
 (bd_cons (sd_if (td_ck (ck_eq hr) (ed_var 0) (ed_pd pd_str))
 (bd_cons (sd_for PassesOwn.never rfl (id_range3 rfl M.f_range (qd_cons pd_int (qd_cons (pd_rd (rd_sub (ed_pd (pd_rd (rd_len rfl M.f_len (ed_var 1)))) (ed_pd pd_int))) (qd_cons pd_int qd_nil)))) (gd_name 4 sc_word_value.nd)
 (bd_one (sd_if (td_ck (ck_eq hr) (ed_pd (pd_rd (rd_ix (ed_var 1) (ed_var 4)))) (ed_pd pd_int))
 (bd_one (sd_ret (rd_ix (ed_var 1) (ed_pd (pd_rd (rd_add (ed_var 4) (ed_pd pd_int)))))))
 bd_nil)))
 (bd_one (sd_ret (rd_ix (ed_var 1) (ed_pd (pd_rd (rd_neg (ed_pd pd_int))))))))
 bd_nil)
 (bd_one (sd_ret (rd_cal c_plain_value hr (by decide) rfl (ad_cons (ed_pd (pd_ed (ed_var 0))) (ad_cons (ed_pd (pd_ed (ed_var 1))) (ad_cons (ed_pd (pd_ed (ed_var 3))) ad_nil))) (many_cons (many_cons (many_cons many_nil)))))))))))
/-! _law_begin: 0 script, 1 cell -/
abbrev s__law_begin : Stmt := top 4
abbrev N__law_begin : List Str := ["script", "cell"]
theorem sc__law_begin : FnScope ["script", "cell"] ["script"] (defScope s__law_begin) := ⟨rfl, rfl, rfl, by decide +kernel, rfl, by decide +kernel, by decide +kernel⟩
noncomputable def b__law_begin : Os := (oRet (oLst (oCons (oFrz (oLc [1] (oItm (oVar 0)) (gNm 1) oYes (oFrz (oCB fIntX (oCons (oVar 1) oNil))))) (oCons (oC (.int 0)) (oCons (oC (.int 0)) (oCons (oC (.int 7)) (oCons (oC (.int 3)) oNil)))))))
noncomputable def g__law_begin : Fn := fnOf 2 b__law_begin
theorem ok__law_begin {P : Program} {w : World} {K : PySem.W.Frag} {mg : Str → Option Value} {base : Heap} {f : Addr} {fd : FuncData} (M : Mg K mg) (F : FnP K "_law_begin" s__law_begin f fd) : FnOk P w K mg base CX0 1 f fd ["script"] (spD K 1 g__law_begin) :=
  fn_ok F sc__law_begin (by decide) (fun cdv A outer s H E hr G =>
  (bd_one (sd_ret (rd_lst (qd_cons (pd_rd (rd_lc (own := [("cell", 1)]) (T := [1]) rfl sc__law_begin.nd (by decide) (id_seq (ed_var 0)) (blkOk_by (N := N__law_begin) (sc := defScope s__law_begin) (by decide +kernel)) (fun _ _ _ _ _ _ => (gd_name 1 sc__law_begin.nd)) (fun _ _ _ _ _ _ => tsd_nil) (fun _ _ _ _ _ _ => (pd_rd (zb_int rfl M.f_int (ad_cons (ed_var 1) ad_nil)))))) (qd_cons pd_int (qd_cons pd_int (qd_cons pd_int (qd_cons pd_int qd_nil)))))))))
/-! _law_draw: 0 d, 1 many, 2 size, 3 found, 4 cell -/
abbrev s__law_draw : Stmt := top 5
abbrev N__law_draw : List Str := ["d", "many", "size", "found", "cell"]
theorem sc__law_draw : FnScope ["d", "many", "size", "found", "cell"] ["d", "many"] (defScope s__law_draw) := ⟨rfl, rfl, rfl, by decide +kernel, rfl, by decide +kernel, by decide +kernel⟩
noncomputable def b__law_draw : Os := (oSeq (oIfS (oTst (oBin fGt (oPu (oFrz (oBin fIx (oVar 0) (oPu (oC (.int 2)))))) (oPu (oC (.int 0)))))
 (oSeq (oSet 3 (oBin fIx (oVar 0) (oPu (oC (.int 2)))))
 (oSeq (oStL 0 (oFrz (oBin fDiv (oVar 3) (oVar 1))) (oC (.int 2)))
 (oRet (oBin fMod (oPu (oFrz (oCB fIntX (oCons (oVar 3) oNil)))) (oVar 1)))))
 oNext)
 (oSeq (oSet 2 (oRes (oC (.int 0))))
 (oSeq (oIfS (oTst (oBin fLt (oPu (oFrz (oBin fIx (oVar 0) (oPu (oC (.int 1)))))) (oPu (oFrz (oLen (oPu (oFrz (oBin fIx (oVar 0) (oPu (oC (.int 0)))))))))))
 (oSeq (oSet 4 (oBin fIx (oPu (oFrz (oBin fIx (oVar 0) (oPu (oC (.int 0)))))) (oPu (oFrz (oBin fIx (oVar 0) (oPu (oC (.int 1))))))))
 (oSet 2 (oBin fAdd (oPu (oFrz (oBin fMulY (oPu (oC (.int 2))) (oPu (oFrz (oCB fAbs (oCons (oVar 4) oNil))))))) (oPu (oFrz (oCB fIntX (oCons (oPu (oFrz (oBin fLt (oVar 4) (oPu (oC (.int 0)))))) oNil)))))))
 oNext)
 (oSeq (oAuL 0 (fInt2 fun i j => i + j) (oC (.int 1)) (oC (.int 1)))
 (oSeq (oIfS (oTst (oBin fGe (oVar 2) (oPu (oFrz (oBin fMulY (oPu (oC (.int 2))) (oPu (oFrz (oBin fPow (oPu (oC (.int 10))) (oPu (oC (.int 18)))))))))))
 (oSeq (oSet 3 (oBin fMod (oPu (oFrz (oCB fIntX (oCons (oPu (oFrz (oBin fDiv (oVar 2) (oPu (oC (.int 2)))))) oNil)))) (oPu (oFrz (oBin fShl (oPu (oC (.int 1))) (oPu (oC (.int 6000))))))))
 (oSeq (oStL 0 (oFrz (oBin fDiv (oVar 3) (oVar 1))) (oC (.int 2)))
 (oRet (oBin fMod (oPu (oFrz (oCB fIntX (oCons (oVar 3) oNil)))) (oVar 1)))))
 oNext)
 (oSeq (oStL 0 (oFrz (oBin fMod (oPu (oFrz (oCB fIntX (oCons (oPu (oFrz (oBin fAdd (oPu (oFrz (oBin fAdd (oPu (oFrz (oBin fAdd (oPu (oFrz (oBin fMulY (oPu (oFrz (oBin fIx (oVar 0) (oPu (oC (.int 3)))))) (oPu (oC (.int 48271)))))) (oPu (oFrz (oBin fMulY (oPu (oFrz (oBin fMod (oPu (oFrz (oCB fIntX (oCons (oVar 2) oNil)))) (oPu (oC (.int 2147483629)))))) (oPu (oC (.int 16807))))))))) (oPu (oFrz (oBin fMulY (oPu (oFrz (oBin fIx (oVar 0) (oPu (oC (.int 1)))))) (oPu (oC (.int 69621))))))))) (oPu (oC (.int 11)))))) oNil)))) (oPu (oC (.int 2147483647))))) (oC (.int 3)))
 (oRet (oBin fMod (oPu (oFrz (oCB fIntX (oCons (oPu (oFrz (oBin fDiv (oPu (oFrz (oBin fIx (oVar 0) (oPu (oC (.int 3)))))) (oPu (oC (.int 16)))))) oNil)))) (oVar 1)))))))))
noncomputable def g__law_draw : Fn := fnOf 5 b__law_draw
theorem ok__law_draw {P : Program} {w : World} {K : PySem.W.Frag} {mg : Str → Option Value} {base : Heap} {f : Addr} {fd : FuncData} (M : Mg K mg) (F : FnP K "_law_draw" s__law_draw f fd) : FnOk P w K mg base CX0 1 f fd ["d", "many"] (spD K 2 g__law_draw) :=
  fn_ok F sc__law_draw (by decide) (fun cdv A outer s H E hr G =>
  (bd_cons (sd_if (td_ck ck_gt (ed_pd (pd_rd (rd_ix (ed_var 0) (ed_pd pd_int)))) (ed_pd pd_int))
 (bd_cons (sd_set 3 (rd_ix (ed_var 0) (ed_pd pd_int)) sc__law_draw.nd)
 (bd_cons (sd_stL 0 (pd_rd (rd_fdiv (ed_var 3) (ed_var 1))) pd_int)
 (bd_one (sd_ret (rd_mod (ed_pd (pd_rd (zb_int rfl M.f_int (ad_cons (ed_var 3) ad_nil)))) (ed_var 1))))))
 bd_nil)
 (bd_cons (sd_set 2 (rd_pd pd_int) sc__law_draw.nd)
 (bd_cons (sd_if (td_ck ck_lt (ed_pd (pd_rd (rd_ix (ed_var 0) (ed_pd pd_int)))) (ed_pd (pd_rd (rd_len rfl M.f_len (ed_pd (pd_rd (rd_ix (ed_var 0) (ed_pd pd_int))))))))
 (bd_cons (sd_set 4 (rd_ix (ed_pd (pd_rd (rd_ix (ed_var 0) (ed_pd pd_int)))) (ed_pd (pd_rd (rd_ix (ed_var 0) (ed_pd pd_int))))) sc__law_draw.nd)
 (bd_one (sd_set 2 (rd_add (ed_pd (pd_rd (rd_mulY (ed_pd pd_int) (ed_pd (pd_rd (zb_abs rfl M.f_abs (ad_cons (ed_var 4) ad_nil))))))) (ed_pd (pd_rd (zb_int rfl M.f_int (ad_cons (ed_pd (pd_rd (rd_ck ck_lt (ed_var 4) (ed_pd pd_int)))) ad_nil))))) sc__law_draw.nd)))
 bd_nil)
 (bd_cons (sd_auL 0 ak_add pd_int pd_int)
 (bd_cons (sd_if (td_ck ck_ge (ed_var 2) (ed_pd (pd_rd (rd_mulY (ed_pd pd_int) (ed_pd (pd_rd (rd_pow (ed_pd pd_int) (ed_pd pd_int))))))))
 (bd_cons (sd_set 3 (rd_mod (ed_pd (pd_rd (zb_int rfl M.f_int (ad_cons (ed_pd (pd_rd (rd_fdiv (ed_var 2) (ed_pd pd_int)))) ad_nil)))) (ed_pd (pd_rd (rd_shl (ed_pd pd_int) (ed_pd pd_int))))) sc__law_draw.nd)
 (bd_cons (sd_stL 0 (pd_rd (rd_fdiv (ed_var 3) (ed_var 1))) pd_int)
 (bd_one (sd_ret (rd_mod (ed_pd (pd_rd (zb_int rfl M.f_int (ad_cons (ed_var 3) ad_nil)))) (ed_var 1))))))
 bd_nil)
 (bd_cons (sd_stL 0 (pd_rd (rd_mod (ed_pd (pd_rd (zb_int rfl M.f_int (ad_cons (ed_pd (pd_rd (rd_add (ed_pd (pd_rd (rd_add (ed_pd (pd_rd (rd_add (ed_pd (pd_rd (rd_mulY (ed_pd (pd_rd (rd_ix (ed_var 0) (ed_pd pd_int)))) (ed_pd pd_int)))) (ed_pd (pd_rd (rd_mulY (ed_pd (pd_rd (rd_mod (ed_pd (pd_rd (zb_int rfl M.f_int (ad_cons (ed_var 2) ad_nil)))) (ed_pd pd_int)))) (ed_pd pd_int))))))) (ed_pd (pd_rd (rd_mulY (ed_pd (pd_rd (rd_ix (ed_var 0) (ed_pd pd_int)))) (ed_pd pd_int))))))) (ed_pd pd_int)))) ad_nil)))) (ed_pd pd_int))) pd_int)
 (bd_one (sd_ret (rd_mod (ed_pd (pd_rd (zb_int rfl M.f_int (ad_cons (ed_pd (pd_rd (rd_fdiv (ed_pd (pd_rd (rd_ix (ed_var 0) (ed_pd pd_int)))) (ed_pd pd_int)))) ad_nil)))) (ed_var 1)))))))))))
/-! _law_pick: 0 d, 1 row -/
abbrev s__law_pick : Stmt := top 6
abbrev N__law_pick : List Str := ["d", "row"]
theorem sc__law_pick : FnScope ["d", "row"] ["d", "row"] (defScope s__law_pick) := ⟨rfl, rfl, rfl, by decide +kernel, rfl, by decide +kernel, by decide +kernel⟩
noncomputable def b__law_pick : Os := (oRet (oBin fIx (oVar 1) (oPu (oFrz (oCall g__law_draw (oCons (oVar 0) (oCons (oPu (oFrz (oLen (oVar 1)))) oNil)))))))
noncomputable def g__law_pick : Fn := fnOf 2 b__law_pick
theorem ok__law_pick {P : Program} {w : World} {K : PySem.W.Frag} {mg : Str → Option Value} {base : Heap} {f : Addr} {fd : FuncData} (M : Mg K mg) (F : FnP K "_law_pick" s__law_pick f fd) (c__law_draw : Cal P w K mg base 1 "_law_draw" ["d", "many"] g__law_draw) : FnOk P w K mg base CX0 2 f fd ["d", "row"] (spD K 2 g__law_pick) :=
  fn_ok F sc__law_pick (by decide) (fun cdv A outer s H E hr G =>
  (bd_one (sd_ret (rd_ix (ed_var 1) (ed_pd (pd_rd (rd_cal c__law_draw hr (by decide) rfl (ad_cons (ed_var 0) (ad_cons (ed_pd (pd_rd (rd_len rfl M.f_len (ed_var 1)))) ad_nil)) (many_cons (many_cons many_nil)))))))))
/-! _law_rare: 0 d, 1 many -/
abbrev s__law_rare : Stmt := top 7
abbrev N__law_rare : List Str := ["d", "many"]
theorem sc__law_rare : FnScope ["d", "many"] ["d", "many"] (defScope s__law_rare) := ⟨rfl, rfl, rfl, by decide +kernel, rfl, by decide +kernel, by decide +kernel⟩
noncomputable def b__law_rare : Os := (oRet (oBin fEq (oPu (oFrz (oCall g__law_draw (oCons (oVar 0) (oCons (oPu (oKeep (oVar 1))) oNil))))) (oPu (oFrz (oBin fDiv (oVar 1) (oPu (oC (.int 2))))))))
noncomputable def g__law_rare : Fn := fnOf 2 b__law_rare
theorem ok__law_rare {P : Program} {w : World} {K : PySem.W.Frag} {mg : Str → Option Value} {base : Heap} {f : Addr} {fd : FuncData} (M : Mg K mg) (F : FnP K "_law_rare" s__law_rare f fd) (c__law_draw : Cal P w K mg base 1 "_law_draw" ["d", "many"] g__law_draw) : FnOk P w K mg base CX0 2 f fd ["d", "many"] (spD K 2 g__law_rare) :=
  fn_ok F sc__law_rare (by decide) (fun cdv A outer s H E hr G =>
  (bd_one (sd_ret (rd_ck (ck_eq hr) (ed_pd (pd_rd (rd_cal c__law_draw hr (by decide) rfl (ad_cons (ed_var 0) (ad_cons (ed_pd (pd_ed (ed_var 1))) ad_nil)) (many_cons (many_cons many_nil))))) (ed_pd (pd_rd (rd_fdiv (ed_var 1) (ed_pd pd_int))))))))
/-! _law_is_int: 0 thing -/
abbrev s__law_is_int : Stmt := top 8
abbrev N__law_is_int : List Str := ["thing"]
theorem sc__law_is_int : FnScope ["thing"] ["thing"] (defScope s__law_is_int) := ⟨rfl, rfl, rfl, by decide +kernel, rfl, by decide +kernel, by decide +kernel⟩
noncomputable def b__law_is_int : Os := (oRet (oRes (oAndV (oFrz (oIsi "int" (oVar 0))) (oNotV (oFrz (oIsi "bool" (oVar 0)))))))
noncomputable def g__law_is_int : Fn := fnOf 1 b__law_is_int
theorem ok__law_is_int {P : Program} {w : World} {K : PySem.W.Frag} {mg : Str → Option Value} {base : Heap} {f : Addr} {fd : FuncData} (M : Mg K mg) (F : FnP K "_law_is_int" s__law_is_int f fd) : FnOk P w K mg base CX0 1 f fd ["thing"] (spD K 1 g__law_is_int) :=
  fn_ok F sc__law_is_int (by decide) (fun cdv A outer s H E hr G =>
  (bd_one (sd_ret (rd_pd (pd_and (pd_rd (rd_isi rfl M.f_isinstance (ed_var 0) rfl M.f_int boot_int)) (pd_one (pd_not (pd_rd (rd_isi rfl M.f_isinstance (ed_var 0) rfl M.f_bool boot_bool)))))))))
/-! _law_bits: 0 value, 1 width, 2 k -/
abbrev s__law_bits : Stmt := top 9
abbrev N__law_bits : List Str := ["value", "width", "k"]
theorem sc__law_bits : FnScope ["value", "width", "k"] ["value", "width"] (defScope s__law_bits) := ⟨rfl, rfl, rfl, by decide +kernel, rfl, by decide +kernel, by decide +kernel⟩
noncomputable def b__law_bits : Os := (oRet (oCB fTuple (oCons (oPu (oFrz (oLc [2] (oRange (oCons (oKeep (oVar 1)) oNil)) (gNm 2) oYes (oFrz (oBin fAnd (oPu (oFrz (oBin fShr (oVar 0) (oVar 2)))) (oPu (oC (.int 1)))))))) oNil)))
noncomputable def g__law_bits : Fn := fnOf 3 b__law_bits
theorem ok__law_bits {P : Program} {w : World} {K : PySem.W.Frag} {mg : Str → Option Value} {base : Heap} {f : Addr} {fd : FuncData} (M : Mg K mg) (F : FnP K "_law_bits" s__law_bits f fd) : FnOk P w K mg base CX0 1 f fd ["value", "width"] (spD K 2 g__law_bits) :=
  fn_ok F sc__law_bits (by decide) (fun cdv A outer s H E hr G =>
  (bd_one (sd_ret (zb_tuple rfl M.f_tuple (ad_cons (ed_pd (pd_rd (rd_lc (own := [("k", 2)]) (T := [2]) rfl sc__law_bits.nd (by decide) (id_range1 rfl M.f_range (qd_cons (pd_ed (ed_var 1)) qd_nil)) (blkOk_by (N := N__law_bits) (sc := defScope s__law_bits) (by decide +kernel)) (fun _ _ _ _ _ _ => (gd_name 2 sc__law_bits.nd)) (fun _ _ _ _ _ _ => tsd_nil) (fun _ _ _ _ _ _ => (pd_rd (rd_band (ed_pd (pd_rd (rd_shr (ed_var 0) (ed_var 2)))) (ed_pd pd_int))))))) ad_nil)))))
/-! _law_word: 0 bits, 1 k -/
abbrev s__law_word : Stmt := top 10
abbrev N__law_word : List Str := ["bits", "k"]
theorem sc__law_word : FnScope ["bits", "k"] ["bits"] (defScope s__law_word) := ⟨rfl, rfl, rfl, by decide +kernel, rfl, by decide +kernel, by decide +kernel⟩
noncomputable def b__law_word : Os := (oRet (oCB fSum (oCons (oPu (oFrz (oLc [1] (oRange (oCons (oFrz (oLen (oVar 0))) oNil)) (gNm 1) oYes (oFrz (oBin fShl (oPu (oFrz (oBin fIx (oVar 0) (oVar 1)))) (oVar 1)))))) oNil)))
noncomputable def g__law_word : Fn := fnOf 2 b__law_word
theorem ok__law_word {P : Program} {w : World} {K : PySem.W.Frag} {mg : Str → Option Value} {base : Heap} {f : Addr} {fd : FuncData} (M : Mg K mg) (F : FnP K "_law_word" s__law_word f fd) : FnOk P w K mg base CX0 1 f fd ["bits"] (spD K 1 g__law_word) :=
  fn_ok F sc__law_word (by decide) (fun cdv A outer s H E hr G =>
  (bd_one (sd_ret (zb_sum rfl rfl M.f_sum (ad_cons (ed_pd (pd_rd (rd_lc (own := [("k", 1)]) (T := [1]) rfl sc__law_word.nd (by decide) (id_range1 rfl M.f_range (qd_cons (pd_rd (rd_len rfl M.f_len (ed_var 0))) qd_nil)) (blkOk_by (N := N__law_word) (sc := defScope s__law_word) (by decide +kernel)) (fun _ _ _ _ _ _ => (gd_name 1 sc__law_word.nd)) (fun _ _ _ _ _ _ => tsd_nil) (fun _ _ _ _ _ _ => (pd_rd (rd_shl (ed_pd (pd_rd (rd_ix (ed_var 0) (ed_var 1)))) (ed_var 1))))))) ad_nil)))))
/-! _law_all_bits: 0 many, 1 b -/
abbrev s__law_all_bits : Stmt := top 11
abbrev N__law_all_bits : List Str := ["many", "b"]
theorem sc__law_all_bits : FnScope ["many", "b"] ["many"] (defScope s__law_all_bits) := ⟨rfl, rfl, rfl, by decide +kernel, rfl, by decide +kernel, by decide +kernel⟩
noncomputable def b__law_all_bits : Os := (oRet (oLc [1] (oRange (oCons (oFrz (oBin fShl (oPu (oC (.int 1))) (oVar 0))) oNil)) (gNm 1) oYes (oFrz (oCall g__law_bits (oCons (oPu (oKeep (oVar 1))) (oCons (oPu (oKeep (oVar 0))) oNil))))))
noncomputable def g__law_all_bits : Fn := fnOf 2 b__law_all_bits
theorem ok__law_all_bits {P : Program} {w : World} {K : PySem.W.Frag} {mg : Str → Option Value} {base : Heap} {f : Addr} {fd : FuncData} (M : Mg K mg) (F : FnP K "_law_all_bits" s__law_all_bits f fd) (c__law_bits : Cal P w K mg base 1 "_law_bits" ["value", "width"] g__law_bits) : FnOk P w K mg base CX0 2 f fd ["many"] (spD K 1 g__law_all_bits) :=
  fn_ok F sc__law_all_bits (by decide) (fun cdv A outer s H E hr G =>
  (bd_one (sd_ret (rd_lc (own := [("b", 1)]) (T := [1]) rfl sc__law_all_bits.nd (by decide) (id_range1 rfl M.f_range (qd_cons (pd_rd (rd_shl (ed_pd pd_int) (ed_var 0))) qd_nil)) (blkOk_by (N := N__law_all_bits) (sc := defScope s__law_all_bits) (by decide +kernel)) (fun _ _ _ _ _ _ => (gd_name 1 sc__law_all_bits.nd)) (fun _ _ _ _ _ _ => tsd_nil) (fun _ _ _ _ _ _ => (pd_rd (rd_cal c__law_bits hr (by decide) rfl (ad_cons (ed_pd (pd_ed (ed_var 1))) (ad_cons (ed_pd (pd_ed (ed_var 0))) ad_nil)) (many_cons (many_cons many_nil)))))))))
/-! _law_address: 0 count -/
abbrev s__law_address : Stmt := top 12
abbrev N__law_address : List Str := ["count"]
theorem sc__law_address : FnScope ["count"] ["count"] (defScope s__law_address) := ⟨rfl, rfl, rfl, by decide +kernel, rfl, by decide +kernel, by decide +kernel⟩
noncomputable def b__law_address : Os := (oRet (oRes (oKeep (oIf (oTst (oBin fLt (oVar 0) (oPu (oC (.int 3))))) (oPu (oC (.int 1))) (oIf (oTst (oBin fLt (oVar 0) (oPu (oC (.int 5))))) (oPu (oC (.int 2))) (oPu (oC (.int 3))))))))
noncomputable def g__law_address : Fn := fnOf 1 b__law_address
theorem ok__law_address {P : Program} {w : World} {K : PySem.W.Frag} {mg : Str → Option Value} {base : Heap} {f : Addr} {fd : FuncData} (M : Mg K mg) (F : FnP K "_law_address" s__law_address f fd) : FnOk P w K mg base CX0 1 f fd ["count"] (spD K 1 g__law_address) :=
  fn_ok F sc__law_address (by decide) (fun cdv A outer s H E hr G =>
  (bd_one (sd_ret (rd_pd (pd_ed (ed_if (td_ck ck_lt (ed_var 0) (ed_pd pd_int)) (ed_pd pd_int) (ed_if (td_ck ck_lt (ed_var 0) (ed_pd pd_int)) (ed_pd pd_int) (ed_pd pd_int))))))))
/-! _law_pair_ops:  -/
abbrev s__law_pair_ops : Stmt := top 13
abbrev N__law_pair_ops : List Str := []
theorem sc__law_pair_ops : FnScope [] [] (defScope s__law_pair_ops) := ⟨rfl, rfl, rfl, by decide +kernel, rfl, by decide +kernel, by decide +kernel⟩
noncomputable def b__law_pair_ops : Os := (oRet (oLst (oCons (oC (.str "and")) (oCons (oC (.str "or")) (oCons (oC (.str "xor")) (oCons (oC (.str "add")) (oCons (oC (.str "sub")) (oCons (oC (.str "eq")) (oCons (oC (.str "lt")) oNil)))))))))
noncomputable def g__law_pair_ops : Fn := fnOf 0 b__law_pair_ops
theorem ok__law_pair_ops {P : Program} {w : World} {K : PySem.W.Frag} {mg : Str → Option Value} {base : Heap} {f : Addr} {fd : FuncData} (M : Mg K mg) (F : FnP K "_law_pair_ops" s__law_pair_ops f fd) : FnOk P w K mg base CX0 1 f fd [] (spD K 0 g__law_pair_ops) :=
  fn_ok F sc__law_pair_ops (by decide) (fun cdv A outer s H E hr G =>
  (bd_one (sd_ret (rd_lst (qd_cons pd_str (qd_cons pd_str (qd_cons pd_str (qd_cons pd_str (qd_cons pd_str (qd_cons pd_str (qd_cons pd_str qd_nil)))))))))))
/-! _law_bitwise: 0 op, 1 one, 2 two, 3 width, 4 left, 5 right, 6 carry, 7 found, 8 k, 9 total, 10 bit -/
abbrev s__law_bitwise : Stmt := top 14
abbrev N__law_bitwise : List Str := ["op", "one", "two", "width", "left", "right", "carry", "found", "k", "total", "bit"]
theorem sc__law_bitwise : FnScope ["op", "one", "two", "width", "left", "right", "carry", "found", "k", "total", "bit"] ["op", "one", "two", "width"] (defScope s__law_bitwise) := ⟨rfl, rfl, rfl, by decide +kernel, rfl, by decide +kernel, by decide +kernel⟩
noncomputable def b__law_bitwise : Os := (oSeq (oSet 4 (oCall g__law_bits (oCons (oPu (oKeep (oVar 1))) (oCons (oPu (oKeep (oVar 3))) oNil))))
 (oSeq (oSet 5 (oCall g__law_bits (oCons (oPu (oKeep (oVar 2))) (oCons (oPu (oKeep (oVar 3))) oNil))))
 (oSeq (oIfS (oTst (oBin fEq (oVar 0) (oPu (oC (.str "not")))))
 (oRet (oCall g__law_word (oCons (oPu (oFrz (oLc [10] (oItm (oVar 4)) (gNm 10) oYes (oFrz (oBin fSub (oPu (oC (.int 1))) (oVar 10)))))) oNil)))
 oNext)
 (oSeq (oIfS (oTst (oBin fEq (oVar 0) (oPu (oC (.str "any")))))
 (oRet (oCB fMax1X (oCons (oVar 4) oNil)))
 oNext)
 (oSeq (oIfS (oTst (oBin fEq (oVar 0) (oPu (oC (.str "and")))))
 (oRet (oCall g__law_word (oCons (oPu (oFrz (oLc [8] (oRange (oCons (oKeep (oVar 3)) oNil)) (gNm 8) oYes (oFrz (oCB fMin2 (oCons (oPu (oFrz (oBin fIx (oVar 4) (oVar 8)))) (oCons (oPu (oFrz (oBin fIx (oVar 5) (oVar 8)))) oNil))))))) oNil)))
 oNext)
 (oSeq (oIfS (oTst (oBin fEq (oVar 0) (oPu (oC (.str "or")))))
 (oRet (oCall g__law_word (oCons (oPu (oFrz (oLc [8] (oRange (oCons (oKeep (oVar 3)) oNil)) (gNm 8) oYes (oFrz (oCB fMax2 (oCons (oPu (oFrz (oBin fIx (oVar 4) (oVar 8)))) (oCons (oPu (oFrz (oBin fIx (oVar 5) (oVar 8)))) oNil))))))) oNil)))
 oNext)
 (oSeq (oIfS (oTst (oBin fEq (oVar 0) (oPu (oC (.str "xor")))))
 (oRet (oCall g__law_word (oCons (oPu (oFrz (oLc [8] (oRange (oCons (oKeep (oVar 3)) oNil)) (gNm 8) oYes (oFrz (oCB fIntX (oCons (oPu (oFrz (oBin fNe (oPu (oFrz (oBin fIx (oVar 4) (oVar 8)))) (oPu (oFrz (oBin fIx (oVar 5) (oVar 8))))))) oNil)))))) oNil)))
 oNext)
 (oSeq (oIfS (oTst (oBin fEq (oVar 0) (oPu (oC (.str "eq")))))
 (oRet (oCB fIntX (oCons (oPu (oFrz (oBin fEq (oVar 4) (oVar 5)))) oNil)))
 oNext)
 (oSeq (oIfS (oTst (oBin fEq (oVar 0) (oPu (oC (.str "lt")))))
 (oSeq (oFor (oRange3 (oCons (oFrz (oBin fSub (oVar 3) (oPu (oC (.int 1))))) (oCons (oFrz (oUn fNeg (oPu (oC (.int 1))))) (oCons (oFrz (oUn fNeg (oPu (oC (.int 1))))) oNil)))) (gNm 8)
 (oIfS (oTst (oBin fNe (oPu (oFrz (oBin fIx (oVar 4) (oVar 8)))) (oPu (oFrz (oBin fIx (oVar 5) (oVar 8))))))
 (oRet (oBin fIx (oVar 5) (oVar 8)))
 oNext))
 (oRet (oRes (oC (.int 0)))))
 oNext)
 (oSeq (oSet 6 (oCB fIntX (oCons (oPu (oFrz (oBin fEq (oVar 0) (oPu (oC (.str "sub")))))) oNil)))
 (oSeq (oSet 7 (oLst oNil))
 (oSeq (oFor (oRange (oCons (oKeep (oVar 3)) oNil)) (gNm 8)
 (oSeq (oSet 9 (oBin fAdd (oPu (oFrz (oBin fAdd (oPu (oFrz (oBin fIx (oVar 4) (oVar 8)))) (oVar 6)))) (oPu (oFrz (oIf (oTst (oBin fEq (oVar 0) (oPu (oC (.str "sub"))))) (oBin fSub (oPu (oC (.int 1))) (oPu (oFrz (oBin fIx (oVar 5) (oVar 8))))) (oBin fIx (oVar 5) (oVar 8)))))))
 (oSeq (oDrop (oPu (oMutK 7 fAppend (oCons (oFrz (oBin fAnd (oVar 9) (oPu (oC (.int 1))))) oNil))))
 (oSet 6 (oBin fShr (oVar 9) (oPu (oC (.int 1))))))))
 (oRet (oCall g__law_word (oCons (oPu (oKeep (oVar 7))) oNil)))))))))))))))
noncomputable def g__law_bitwise : Fn := fnOf 11 b__law_bitwise
theorem ok__law_bitwise {P : Program} {w : World} {K : PySem.W.Frag} {mg : Str → Option Value} {base : Heap} {f : Addr} {fd : FuncData} (M : Mg K mg) (F : FnP K "_law_bitwise" s__law_bitwise f fd) (c__law_bits : Cal P w K mg base 1 "_law_bits" ["value", "width"] g__law_bits) (c__law_word : Cal P w K mg base 1 "_law_word" ["bits"] g__law_word) : FnOk P w K mg base CX0 2 f fd ["op", "one", "two", "width"] (spD K 4 g__law_bitwise) :=
  fn_ok F sc__law_bitwise (by decide) (fun cdv A outer s H E hr G =>
  (bd_cons (sd_set 4 (rd_cal c__law_bits hr (by decide) rfl (ad_cons (ed_pd (pd_ed (ed_var 1))) (ad_cons (ed_pd (pd_ed (ed_var 3))) ad_nil)) (many_cons (many_cons many_nil))) sc__law_bitwise.nd)
 (bd_cons (sd_set 5 (rd_cal c__law_bits hr (by decide) rfl (ad_cons (ed_pd (pd_ed (ed_var 2))) (ad_cons (ed_pd (pd_ed (ed_var 3))) ad_nil)) (many_cons (many_cons many_nil))) sc__law_bitwise.nd)
 (bd_cons (sd_if (td_ck (ck_eq hr) (ed_var 0) (ed_pd pd_str))
 (bd_one (sd_ret (rd_cal c__law_word hr (by decide) rfl (ad_cons (ed_pd (pd_rd (rd_lc (own := [("bit", 10)]) (T := [10]) rfl sc__law_bitwise.nd (by decide) (id_seq (ed_var 4)) (blkOk_by (N := N__law_bitwise) (sc := defScope s__law_bitwise) (by decide +kernel)) (fun _ _ _ _ _ _ => (gd_name 10 sc__law_bitwise.nd)) (fun _ _ _ _ _ _ => tsd_nil) (fun _ _ _ _ _ _ => (pd_rd (rd_sub (ed_pd pd_int) (ed_var 10))))))) ad_nil) (many_cons many_nil))))
 bd_nil)
 (bd_cons (sd_if (td_ck (ck_eq hr) (ed_var 0) (ed_pd pd_str))
 (bd_one (sd_ret (zb_max1X hr rfl rfl M.f_max (ad_cons (ed_var 4) ad_nil))))
 bd_nil)
 (bd_cons (sd_if (td_ck (ck_eq hr) (ed_var 0) (ed_pd pd_str))
 (bd_one (sd_ret (rd_cal c__law_word hr (by decide) rfl (ad_cons (ed_pd (pd_rd (rd_lc (own := [("k", 8)]) (T := [8]) rfl sc__law_bitwise.nd (by decide) (id_range1 rfl M.f_range (qd_cons (pd_ed (ed_var 3)) qd_nil)) (blkOk_by (N := N__law_bitwise) (sc := defScope s__law_bitwise) (by decide +kernel)) (fun _ _ _ _ _ _ => (gd_name 8 sc__law_bitwise.nd)) (fun _ _ _ _ _ _ => tsd_nil) (fun _ _ _ _ _ _ => (pd_rd (zb_min2 rfl rfl M.f_min (ad_cons (ed_pd (pd_rd (rd_ix (ed_var 4) (ed_var 8)))) (ad_cons (ed_pd (pd_rd (rd_ix (ed_var 5) (ed_var 8)))) ad_nil)))))))) ad_nil) (many_cons many_nil))))
 bd_nil)
 (bd_cons (sd_if (td_ck (ck_eq hr) (ed_var 0) (ed_pd pd_str))
 (bd_one (sd_ret (rd_cal c__law_word hr (by decide) rfl (ad_cons (ed_pd (pd_rd (rd_lc (own := [("k", 8)]) (T := [8]) rfl sc__law_bitwise.nd (by decide) (id_range1 rfl M.f_range (qd_cons (pd_ed (ed_var 3)) qd_nil)) (blkOk_by (N := N__law_bitwise) (sc := defScope s__law_bitwise) (by decide +kernel)) (fun _ _ _ _ _ _ => (gd_name 8 sc__law_bitwise.nd)) (fun _ _ _ _ _ _ => tsd_nil) (fun _ _ _ _ _ _ => (pd_rd (zb_max2 rfl rfl M.f_max (ad_cons (ed_pd (pd_rd (rd_ix (ed_var 4) (ed_var 8)))) (ad_cons (ed_pd (pd_rd (rd_ix (ed_var 5) (ed_var 8)))) ad_nil)))))))) ad_nil) (many_cons many_nil))))
 bd_nil)
 (bd_cons (sd_if (td_ck (ck_eq hr) (ed_var 0) (ed_pd pd_str))
 (bd_one (sd_ret (rd_cal c__law_word hr (by decide) rfl (ad_cons (ed_pd (pd_rd (rd_lc (own := [("k", 8)]) (T := [8]) rfl sc__law_bitwise.nd (by decide) (id_range1 rfl M.f_range (qd_cons (pd_ed (ed_var 3)) qd_nil)) (blkOk_by (N := N__law_bitwise) (sc := defScope s__law_bitwise) (by decide +kernel)) (fun _ _ _ _ _ _ => (gd_name 8 sc__law_bitwise.nd)) (fun _ _ _ _ _ _ => tsd_nil) (fun _ _ _ _ _ _ => (pd_rd (zb_int rfl M.f_int (ad_cons (ed_pd (pd_rd (rd_ck (ck_ne hr) (ed_pd (pd_rd (rd_ix (ed_var 4) (ed_var 8)))) (ed_pd (pd_rd (rd_ix (ed_var 5) (ed_var 8))))))) ad_nil))))))) ad_nil) (many_cons many_nil))))
 bd_nil)
 (bd_cons (sd_if (td_ck (ck_eq hr) (ed_var 0) (ed_pd pd_str))
 (bd_one (sd_ret (zb_int rfl M.f_int (ad_cons (ed_pd (pd_rd (rd_ck (ck_eq hr) (ed_var 4) (ed_var 5)))) ad_nil))))
 bd_nil)
 (bd_cons (sd_if (td_ck (ck_eq hr) (ed_var 0) (ed_pd pd_str))
 (bd_cons (sd_for PassesOwn.never rfl (id_range3 rfl M.f_range (qd_cons (pd_rd (rd_sub (ed_var 3) (ed_pd pd_int))) (qd_cons (pd_rd (rd_neg (ed_pd pd_int))) (qd_cons (pd_rd (rd_neg (ed_pd pd_int))) qd_nil)))) (gd_name 8 sc__law_bitwise.nd)
 (bd_one (sd_if (td_ck (ck_ne hr) (ed_pd (pd_rd (rd_ix (ed_var 4) (ed_var 8)))) (ed_pd (pd_rd (rd_ix (ed_var 5) (ed_var 8)))))
 (bd_one (sd_ret (rd_ix (ed_var 5) (ed_var 8))))
 bd_nil)))
 (bd_one (sd_ret (rd_pd pd_int))))
 bd_nil)
 (bd_cons (sd_set 6 (zb_int rfl M.f_int (ad_cons (ed_pd (pd_rd (rd_ck (ck_eq hr) (ed_var 0) (ed_pd pd_str)))) ad_nil)) sc__law_bitwise.nd)
 (bd_cons (sd_set 7 (rd_lst qd_nil) sc__law_bitwise.nd)
 (bd_cons (sd_for PassesOwn.never rfl (id_range1 rfl M.f_range (qd_cons (pd_ed (ed_var 3)) qd_nil)) (gd_name 8 sc__law_bitwise.nd)
 (bd_cons (sd_set 9 (rd_add (ed_pd (pd_rd (rd_add (ed_pd (pd_rd (rd_ix (ed_var 4) (ed_var 8)))) (ed_var 6)))) (ed_pd (pd_rd (rd_if (td_ck (ck_eq hr) (ed_var 0) (ed_pd pd_str)) (rd_sub (ed_pd pd_int) (ed_pd (pd_rd (rd_ix (ed_var 5) (ed_var 8))))) (rd_ix (ed_var 5) (ed_var 8)))))) sc__law_bitwise.nd)
 (bd_cons (sd_expr (ed_pd (zl_append 7 (qd_cons (pd_rd (rd_band (ed_var 9) (ed_pd pd_int))) qd_nil))))
 (bd_one (sd_set 6 (rd_shr (ed_var 9) (ed_pd pd_int)) sc__law_bitwise.nd)))))
 (bd_one (sd_ret (rd_cal c__law_word hr (by decide) rfl (ad_cons (ed_pd (pd_ed (ed_var 7))) ad_nil) (many_cons many_nil)))))))))))))))))
/-! _law_told: 0 op, 1 args, 2 widths, 3 width, 4 due, 5 told -/
abbrev s__law_told : Stmt := top 15
abbrev N__law_told : List Str := ["op", "args", "widths", "width", "due", "told"]
theorem sc__law_told : FnScope ["op", "args", "widths", "width", "due", "told"] ["op", "args", "widths", "width", "due"] (defScope s__law_told) := ⟨rfl, rfl, rfl, by decide +kernel, rfl, by decide +kernel, by decide +kernel⟩
noncomputable def b__law_told : Os := (oSeq (oSet 5 (oCall g_word_value (oCons (oPu (oKeep (oVar 0))) (oCons (oPu (oFrz (oCB fTuple (oCons (oVar 1) oNil)))) (oCons (oPu (oFrz (oCB fTuple (oCons (oVar 2) oNil)))) (oCons (oPu (oKeep (oVar 3))) oNil))))))
 (oRet (oRes (oAndV (oFrz (oCall g__law_is_int (oCons (oPu (oKeep (oVar 5))) oNil))) (oFrz (oBin fEq (oVar 5) (oVar 4)))))))
noncomputable def g__law_told : Fn := fnOf 6 b__law_told
theorem ok__law_told {P : Program} {w : World} {K : PySem.W.Frag} {mg : Str → Option Value} {base : Heap} {f : Addr} {fd : FuncData} (M : Mg K mg) (F : FnP K "_law_told" s__law_told f fd) (c__law_is_int : Cal P w K mg base 1 "_law_is_int" ["thing"] g__law_is_int) (c_word_value : Cal P w K mg base 2 "word_value" ["op", "args", "widths", "width"] g_word_value) : FnOk P w K mg base CX0 3 f fd ["op", "args", "widths", "width", "due"] (spD K 5 g__law_told) :=
  fn_ok F sc__law_told (by decide) (fun cdv A outer s H E hr G =>
  (bd_cons (sd_set 5 (rd_cal c_word_value hr (by decide) rfl (ad_cons (ed_pd (pd_ed (ed_var 0))) (ad_cons (ed_pd (pd_rd (zb_tuple rfl M.f_tuple (ad_cons (ed_var 1) ad_nil)))) (ad_cons (ed_pd (pd_rd (zb_tuple rfl M.f_tuple (ad_cons (ed_var 2) ad_nil)))) (ad_cons (ed_pd (pd_ed (ed_var 3))) ad_nil)))) (many_cons (many_cons (many_cons (many_cons many_nil))))) sc__law_told.nd)
 (bd_one (sd_ret (rd_pd (pd_and (pd_rd (rd_cal c__law_is_int hr (by decide) rfl (ad_cons (ed_pd (pd_ed (ed_var 5))) ad_nil) (many_cons many_nil))) (pd_one (pd_rd (rd_ck (ck_eq hr) (ed_var 5) (ed_var 4))))))))))
/-! _law_told_twice: 0 op, 1 args, 2 widths, 3 width, 4 due, 5 row, 6 beside, 7 told -/
abbrev s__law_told_twice : Stmt := top 16
abbrev N__law_told_twice : List Str := ["op", "args", "widths", "width", "due", "row", "beside", "told"]
theorem sc__law_told_twice : FnScope ["op", "args", "widths", "width", "due", "row", "beside", "told"] ["op", "args", "widths", "width", "due"] (defScope s__law_told_twice) := ⟨rfl, rfl, rfl, by decide +kernel, rfl, by decide +kernel, by decide +kernel⟩
noncomputable def b__law_told_twice : Os := (oSeq (oSet 5 (oCB fList (oCons (oVar 1) oNil)))
 (oSeq (oSet 6 (oCB fList (oCons (oVar 2) oNil)))
 (oSeq (oSet 7 (oCall g_word_value (oCons (oPu (oKeep (oVar 0))) (oCons (oPu (oKeep (oVar 5))) (oCons (oPu (oKeep (oVar 6))) (oCons (oPu (oKeep (oVar 3))) oNil))))))
 (oSeq (oIfS (oOr (oNot (oTst (oCall g__law_is_int (oCons (oPu (oKeep (oVar 7))) oNil)))) (oOr (oTst (oBin fNe (oVar 7) (oVar 4))) (oOr (oTst (oBin fNe (oVar 5) (oPu (oFrz (oCB fList (oCons (oVar 1) oNil)))))) (oTst (oBin fNe (oVar 6) (oPu (oFrz (oCB fList (oCons (oVar 2) oNil)))))))))
 (oRet (oRes (oC (.bool false))))
 oNext)
 (oRet (oCall g__law_told (oCons (oPu (oKeep (oVar 0))) (oCons (oPu (oKeep (oVar 1))) (oCons (oPu (oKeep (oVar 2))) (oCons (oPu (oKeep (oVar 3))) (oCons (oPu (oKeep (oVar 4))) oNil)))))))))))
noncomputable def g__law_told_twice : Fn := fnOf 8 b__law_told_twice
theorem ok__law_told_twice {P : Program} {w : World} {K : PySem.W.Frag} {mg : Str → Option Value} {base : Heap} {f : Addr} {fd : FuncData} (M : Mg K mg) (F : FnP K "_law_told_twice" s__law_told_twice f fd) (c__law_is_int : Cal P w K mg base 1 "_law_is_int" ["thing"] g__law_is_int) (c__law_told : Cal P w K mg base 3 "_law_told" ["op", "args", "widths", "width", "due"] g__law_told) (c_word_value : Cal P w K mg base 2 "word_value" ["op", "args", "widths", "width"] g_word_value) : FnOk P w K mg base CX0 4 f fd ["op", "args", "widths", "width", "due"] (spD K 5 g__law_told_twice) :=
  fn_ok F sc__law_told_twice (by decide) (fun cdv A outer s H E hr G =>
  (bd_cons (sd_set 5 (zb_list rfl M.f_list (ad_cons (ed_var 1) ad_nil)) sc__law_told_twice.nd)
 (bd_cons (sd_set 6 (zb_list rfl M.f_list (ad_cons (ed_var 2) ad_nil)) sc__law_told_twice.nd)
 (bd_cons (sd_set 7 (rd_cal c_word_value hr (by decide) rfl (ad_cons (ed_pd (pd_ed (ed_var 0))) (ad_cons (ed_pd (pd_ed (ed_var 5))) (ad_cons (ed_pd (pd_ed (ed_var 6))) (ad_cons (ed_pd (pd_ed (ed_var 3))) ad_nil)))) (many_cons (many_cons (many_cons (many_cons many_nil))))) sc__law_told_twice.nd)
 (bd_cons (sd_if (td_w (wd_or (td_not (td_rd (rd_cal c__law_is_int hr (by decide) rfl (ad_cons (ed_pd (pd_ed (ed_var 7))) ad_nil) (many_cons many_nil)))) (wd_or (td_ck (ck_ne hr) (ed_var 7) (ed_var 4)) (wd_or (td_ck (ck_ne hr) (ed_var 5) (ed_pd (pd_rd (zb_list rfl M.f_list (ad_cons (ed_var 1) ad_nil))))) (wd_or1 (td_ck (ck_ne hr) (ed_var 6) (ed_pd (pd_rd (zb_list rfl M.f_list (ad_cons (ed_var 2) ad_nil))))))))))
 (bd_one (sd_ret (rd_pd pd_bool)))
 bd_nil)
 (bd_one (sd_ret (rd_cal c__law_told hr (by decide) rfl (ad_cons (ed_pd (pd_ed (ed_var 0))) (ad_cons (ed_pd (pd_ed (ed_var 1))) (ad_cons (ed_pd (pd_ed (ed_var 2))) (ad_cons (ed_pd (pd_ed (ed_var 3))) (ad_cons (ed_pd (pd_ed (ed_var 4))) ad_nil))))) (many_cons (many_cons (many_cons (many_cons (many_cons many_nil)))))))))))))
/-! _law_case: 0 op, 1 one, 2 two, 3 width, 4 args, 5 own -/
abbrev s__law_case : Stmt := top 17
abbrev N__law_case : List Str := ["op", "one", "two", "width", "args", "own"]
theorem sc__law_case : FnScope ["op", "one", "two", "width", "args", "own"] ["op", "one", "two", "width"] (defScope s__law_case) := ⟨rfl, rfl, rfl, by decide +kernel, rfl, by decide +kernel, by decide +kernel⟩
noncomputable def b__law_case : Os := (oSeq (oSet 4 (oRes (oKeep (oIf (oTst (oBin (fIn false) (oVar 0) (oPu (oTup (oCons (oC (.str "not")) (oCons (oC (.str "any")) oNil)))))) (oPu (oTup (oCons (oKeep (oVar 1)) oNil))) (oPu (oTup (oCons (oKeep (oVar 1)) (oCons (oKeep (oVar 2)) oNil))))))))
 (oSeq (oSet 5 (oRes (oKeep (oIf (oTst (oBin (fIn false) (oVar 0) (oPu (oTup (oCons (oC (.str "any")) (oCons (oC (.str "eq")) (oCons (oC (.str "lt")) oNil))))))) (oPu (oC (.int 1))) (oVar 3)))))
 (oRet (oRes (oTup (oCons (oKeep (oVar 4)) (oCons (oFrz (oBin fMulY (oPu (oTup (oCons (oKeep (oVar 3)) oNil))) (oPu (oFrz (oLen (oVar 4)))))) (oCons (oKeep (oVar 5)) (oCons (oFrz (oCall g__law_bitwise (oCons (oPu (oKeep (oVar 0))) (oCons (oPu (oKeep (oVar 1))) (oCons (oPu (oKeep (oVar 2))) (oCons (oPu (oKeep (oVar 3))) oNil)))))) oNil)))))))))
noncomputable def g__law_case : Fn := fnOf 6 b__law_case
theorem ok__law_case {P : Program} {w : World} {K : PySem.W.Frag} {mg : Str → Option Value} {base : Heap} {f : Addr} {fd : FuncData} (M : Mg K mg) (F : FnP K "_law_case" s__law_case f fd) (c__law_bitwise : Cal P w K mg base 2 "_law_bitwise" ["op", "one", "two", "width"] g__law_bitwise) : FnOk P w K mg base CX0 3 f fd ["op", "one", "two", "width"] (spD K 4 g__law_case) :=
  fn_ok F sc__law_case (by decide) (fun cdv A outer s H E hr G =>
  (bd_cons (sd_set 4 (rd_pd (pd_ed (ed_if (td_ck ck_in (ed_var 0) (ed_pd (pd_tup (qd_cons pd_str (qd_cons pd_str qd_nil))))) (ed_pd (pd_tup (qd_cons (pd_ed (ed_var 1)) qd_nil))) (ed_pd (pd_tup (qd_cons (pd_ed (ed_var 1)) (qd_cons (pd_ed (ed_var 2)) qd_nil))))))) sc__law_case.nd)
 (bd_cons (sd_set 5 (rd_pd (pd_ed (ed_if (td_ck ck_in (ed_var 0) (ed_pd (pd_tup (qd_cons pd_str (qd_cons pd_str (qd_cons pd_str qd_nil)))))) (ed_pd pd_int) (ed_var 3)))) sc__law_case.nd)
 (bd_one (sd_ret (rd_pd (pd_tup (qd_cons (pd_ed (ed_var 4)) (qd_cons (pd_rd (rd_mulY (ed_pd (pd_tup (qd_cons (pd_ed (ed_var 3)) qd_nil))) (ed_pd (pd_rd (rd_len rfl M.f_len (ed_var 4)))))) (qd_cons (pd_ed (ed_var 5)) (qd_cons (pd_rd (rd_cal c__law_bitwise hr (by decide) rfl (ad_cons (ed_pd (pd_ed (ed_var 0))) (ad_cons (ed_pd (pd_ed (ed_var 1))) (ad_cons (ed_pd (pd_ed (ed_var 2))) (ad_cons (ed_pd (pd_ed (ed_var 3))) ad_nil)))) (many_cons (many_cons (many_cons (many_cons many_nil)))))) qd_nil)))))))))))
/-! _law_all_told: 0 width, 1 one, 2 op, 3 two, 4 args, 5 widths, 6 own, 7 due -/
abbrev s__law_all_told : Stmt := top 18
abbrev N__law_all_told : List Str := ["width", "one", "op", "two", "args", "widths", "own", "due"]
theorem sc__law_all_told : FnScope ["width", "one", "op", "two", "args", "widths", "own", "due"] ["width"] (defScope s__law_all_told) := ⟨rfl, rfl, rfl, by decide +kernel, rfl, by decide +kernel, by decide +kernel⟩
noncomputable def b__law_all_told : Os := (oSeq (oFor (oRange (oCons (oFrz (oBin fShl (oPu (oC (.int 1))) (oVar 0))) oNil)) (gNm 1)
 (oSeq (oFor (oItm (oPu (oTup (oCons (oC (.str "not")) (oCons (oC (.str "any")) oNil))))) (gNm 2)
 (oSeq (oAsg (oFrz (oCall g__law_case (oCons (oPu (oKeep (oVar 2))) (oCons (oPu (oKeep (oVar 1))) (oCons (oPu (oC (.int 0))) (oCons (oPu (oKeep (oVar 0))) oNil)))))) (gTp 4 (gCn (gNm 4) (gCn (gNm 5) (gCn (gNm 6) (gCn (gNm 7) gNl))))))
 (oIfS (oNot (oTst (oCall g__law_told (oCons (oPu (oKeep (oVar 2))) (oCons (oPu (oKeep (oVar 4))) (oCons (oPu (oKeep (oVar 5))) (oCons (oPu (oKeep (oVar 6))) (oCons (oPu (oKeep (oVar 7))) oNil))))))))
 (oRet (oRes (oC (.bool false))))
 oNext)))
 (oFor (oRange (oCons (oFrz (oBin fShl (oPu (oC (.int 1))) (oVar 0))) oNil)) (gNm 3)
 (oFor (oItm (oPu (oFrz (oCall g__law_pair_ops oNil)))) (gNm 2)
 (oSeq (oAsg (oFrz (oCall g__law_case (oCons (oPu (oKeep (oVar 2))) (oCons (oPu (oKeep (oVar 1))) (oCons (oPu (oKeep (oVar 3))) (oCons (oPu (oKeep (oVar 0))) oNil)))))) (gTp 4 (gCn (gNm 4) (gCn (gNm 5) (gCn (gNm 6) (gCn (gNm 7) gNl))))))
 (oIfS (oNot (oTst (oCall g__law_told (oCons (oPu (oKeep (oVar 2))) (oCons (oPu (oKeep (oVar 4))) (oCons (oPu (oKeep (oVar 5))) (oCons (oPu (oKeep (oVar 6))) (oCons (oPu (oKeep (oVar 7))) oNil))))))))
 (oRet (oRes (oC (.bool false))))
 oNext))))))
 (oRet (oRes (oC (.bool true)))))
noncomputable def g__law_all_told : Fn := fnOf 8 b__law_all_told
theorem ok__law_all_told {P : Program} {w : World} {K : PySem.W.Frag} {mg : Str → Option Value} {base : Heap} {f : Addr} {fd : FuncData} (M : Mg K mg) (F : FnP K "_law_all_told" s__law_all_told f fd) (c__law_case : Cal P w K mg base 3 "_law_case" ["op", "one", "two", "width"] g__law_case) (c__law_pair_ops : Cal P w K mg base 1 "_law_pair_ops" [] g__law_pair_ops) (c__law_told : Cal P w K mg base 3 "_law_told" ["op", "args", "widths", "width", "due"] g__law_told) : FnOk P w K mg base CX0 4 f fd ["width"] (spD K 1 g__law_all_told) :=
  fn_ok F sc__law_all_told (by decide) (fun cdv A outer s H E hr G =>
  (bd_cons (sd_for PassesOwn.never rfl (id_range1 rfl M.f_range (qd_cons (pd_rd (rd_shl (ed_pd pd_int) (ed_var 0))) qd_nil)) (gd_name 1 sc__law_all_told.nd)
 (bd_cons (sd_for PassesOwn.never rfl (id_seq (ed_pd (pd_tup (qd_cons pd_str (qd_cons pd_str qd_nil))))) (gd_name 2 sc__law_all_told.nd)
 (bd_cons (sd_asg (pd_rd (rd_cal c__law_case hr (by decide) rfl (ad_cons (ed_pd (pd_ed (ed_var 2))) (ad_cons (ed_pd (pd_ed (ed_var 1))) (ad_cons (ed_pd pd_int) (ad_cons (ed_pd (pd_ed (ed_var 0))) ad_nil)))) (many_cons (many_cons (many_cons (many_cons many_nil)))))) (gd_tup rfl (gds_cons (gd_name 4 sc__law_all_told.nd) (gds_cons (gd_name 5 sc__law_all_told.nd) (gds_cons (gd_name 6 sc__law_all_told.nd) (gds_cons (gd_name 7 sc__law_all_told.nd) gds_nil))))))
 (bd_one (sd_if (td_not (td_rd (rd_cal c__law_told hr (by decide) rfl (ad_cons (ed_pd (pd_ed (ed_var 2))) (ad_cons (ed_pd (pd_ed (ed_var 4))) (ad_cons (ed_pd (pd_ed (ed_var 5))) (ad_cons (ed_pd (pd_ed (ed_var 6))) (ad_cons (ed_pd (pd_ed (ed_var 7))) ad_nil))))) (many_cons (many_cons (many_cons (many_cons (many_cons many_nil))))))))
 (bd_one (sd_ret (rd_pd pd_bool)))
 bd_nil))))
 (bd_one (sd_for PassesOwn.never rfl (id_range1 rfl M.f_range (qd_cons (pd_rd (rd_shl (ed_pd pd_int) (ed_var 0))) qd_nil)) (gd_name 3 sc__law_all_told.nd)
 (bd_one (sd_for PassesOwn.never rfl (id_seq (ed_pd (pd_rd (rd_cal0 c__law_pair_ops hr (by decide) rfl)))) (gd_name 2 sc__law_all_told.nd)
 (bd_cons (sd_asg (pd_rd (rd_cal c__law_case hr (by decide) rfl (ad_cons (ed_pd (pd_ed (ed_var 2))) (ad_cons (ed_pd (pd_ed (ed_var 1))) (ad_cons (ed_pd (pd_ed (ed_var 3))) (ad_cons (ed_pd (pd_ed (ed_var 0))) ad_nil)))) (many_cons (many_cons (many_cons (many_cons many_nil)))))) (gd_tup rfl (gds_cons (gd_name 4 sc__law_all_told.nd) (gds_cons (gd_name 5 sc__law_all_told.nd) (gds_cons (gd_name 6 sc__law_all_told.nd) (gds_cons (gd_name 7 sc__law_all_told.nd) gds_nil))))))
 (bd_one (sd_if (td_not (td_rd (rd_cal c__law_told hr (by decide) rfl (ad_cons (ed_pd (pd_ed (ed_var 2))) (ad_cons (ed_pd (pd_ed (ed_var 4))) (ad_cons (ed_pd (pd_ed (ed_var 5))) (ad_cons (ed_pd (pd_ed (ed_var 6))) (ad_cons (ed_pd (pd_ed (ed_var 7))) ad_nil))))) (many_cons (many_cons (many_cons (many_cons (many_cons many_nil))))))))
 (bd_one (sd_ret (rd_pd pd_bool)))
 bd_nil)))))))))
 (bd_one (sd_ret (rd_pd pd_bool)))))
/-! _law_edge_word: 0 d, 1 width, 2 whole, 3 row -/
abbrev s__law_edge_word : Stmt := top 19
abbrev N__law_edge_word : List Str := ["d", "width", "whole", "row"]
theorem sc__law_edge_word : FnScope ["d", "width", "whole", "row"] ["d", "width"] (defScope s__law_edge_word) := ⟨rfl, rfl, rfl, by decide +kernel, rfl, by decide +kernel, by decide +kernel⟩
noncomputable def b__law_edge_word : Os := (oSeq (oSet 2 (oBin fSub (oPu (oFrz (oBin fShl (oPu (oC (.int 1))) (oVar 1)))) (oPu (oC (.int 1)))))
 (oSeq (oSet 3 (oBin fAdd (oPu (oFrz (oLst (oCons (oC (.int 0)) (oCons (oC (.int 1)) (oCons (oKeep (oVar 2)) (oCons (oFrz (oBin fShl (oPu (oC (.int 1))) (oPu (oFrz (oBin fSub (oVar 1) (oPu (oC (.int 1)))))))) oNil))))))) (oPu (oFrz (oBin fMulY (oPu (oFrz (oLst (oCons (oFrz (oCall g__law_draw (oCons (oVar 0) (oCons (oPu (oFrz (oBin fAdd (oVar 2) (oPu (oC (.int 1)))))) oNil)))) oNil)))) (oPu (oC (.int 4))))))))
 (oRet (oCall g__law_pick (oCons (oVar 0) (oCons (oPu (oKeep (oVar 3))) oNil))))))
noncomputable def g__law_edge_word : Fn := fnOf 4 b__law_edge_word
theorem ok__law_edge_word {P : Program} {w : World} {K : PySem.W.Frag} {mg : Str → Option Value} {base : Heap} {f : Addr} {fd : FuncData} (M : Mg K mg) (F : FnP K "_law_edge_word" s__law_edge_word f fd) (c__law_draw : Cal P w K mg base 1 "_law_draw" ["d", "many"] g__law_draw) (c__law_pick : Cal P w K mg base 2 "_law_pick" ["d", "row"] g__law_pick) : FnOk P w K mg base CX0 3 f fd ["d", "width"] (spD K 2 g__law_edge_word) :=
  fn_ok F sc__law_edge_word (by decide) (fun cdv A outer s H E hr G =>
  (bd_cons (sd_set 2 (rd_sub (ed_pd (pd_rd (rd_shl (ed_pd pd_int) (ed_var 1)))) (ed_pd pd_int)) sc__law_edge_word.nd)
 (bd_cons (sd_set 3 (rd_add (ed_pd (pd_rd (rd_lst (qd_cons pd_int (qd_cons pd_int (qd_cons (pd_ed (ed_var 2)) (qd_cons (pd_rd (rd_shl (ed_pd pd_int) (ed_pd (pd_rd (rd_sub (ed_var 1) (ed_pd pd_int)))))) qd_nil))))))) (ed_pd (pd_rd (rd_mulY (ed_pd (pd_rd (rd_lst (qd_cons (pd_rd (rd_cal c__law_draw hr (by decide) rfl (ad_cons (ed_var 0) (ad_cons (ed_pd (pd_rd (rd_add (ed_var 2) (ed_pd pd_int)))) ad_nil)) (many_cons (many_cons many_nil)))) qd_nil)))) (ed_pd pd_int))))) sc__law_edge_word.nd)
 (bd_one (sd_ret (rd_cal c__law_pick hr (by decide) rfl (ad_cons (ed_var 0) (ad_cons (ed_pd (pd_ed (ed_var 3))) ad_nil)) (many_cons (many_cons many_nil))))))))
/-! _law_drawn_told: 0 d, 1 width, 2 one, 3 two, 4 op, 5 args, 6 widths, 7 own, 8 due -/
abbrev s__law_drawn_told : Stmt := top 20
abbrev N__law_drawn_told : List Str := ["d", "width", "one", "two", "op", "args", "widths", "own", "due"]
theorem sc__law_drawn_told : FnScope ["d", "width", "one", "two", "op", "args", "widths", "own", "due"] ["d"] (defScope s__law_drawn_told) := ⟨rfl, rfl, rfl, by decide +kernel, rfl, by decide +kernel, by decide +kernel⟩
noncomputable def b__law_drawn_told : Os := (oSeq (oSet 1 (oBin fAdd (oPu (oC (.int 1))) (oPu (oFrz (oCall g__law_draw (oCons (oVar 0) (oCons (oPu (oC (.int 8))) oNil)))))))
 (oSeq (oSet 2 (oCall g__law_edge_word (oCons (oVar 0) (oCons (oPu (oKeep (oVar 1))) oNil))))
 (oSeq (oSet 3 (oCall g__law_edge_word (oCons (oVar 0) (oCons (oPu (oKeep (oVar 1))) oNil))))
 (oSeq (oFor (oItm (oPu (oFrz (oBin fAdd (oPu (oFrz (oCall g__law_pair_ops oNil))) (oPu (oFrz (oLst (oCons (oC (.str "not")) (oCons (oC (.str "any")) oNil))))))))) (gNm 4)
 (oSeq (oAsg (oFrz (oCall g__law_case (oCons (oPu (oKeep (oVar 4))) (oCons (oPu (oKeep (oVar 2))) (oCons (oPu (oKeep (oVar 3))) (oCons (oPu (oKeep (oVar 1))) oNil)))))) (gTp 4 (gCn (gNm 5) (gCn (gNm 6) (gCn (gNm 7) (gCn (gNm 8) gNl))))))
 (oIfS (oNot (oTst (oCall g__law_told_twice (oCons (oPu (oKeep (oVar 4))) (oCons (oPu (oKeep (oVar 5))) (oCons (oPu (oKeep (oVar 6))) (oCons (oPu (oKeep (oVar 7))) (oCons (oPu (oKeep (oVar 8))) oNil))))))))
 (oRet (oRes (oC (.bool false))))
 oNext)))
 (oRet (oRes (oC (.bool true))))))))
noncomputable def g__law_drawn_told : Fn := fnOf 9 b__law_drawn_told
theorem ok__law_drawn_told {P : Program} {w : World} {K : PySem.W.Frag} {mg : Str → Option Value} {base : Heap} {f : Addr} {fd : FuncData} (M : Mg K mg) (F : FnP K "_law_drawn_told" s__law_drawn_told f fd) (c__law_case : Cal P w K mg base 3 "_law_case" ["op", "one", "two", "width"] g__law_case) (c__law_draw : Cal P w K mg base 1 "_law_draw" ["d", "many"] g__law_draw) (c__law_edge_word : Cal P w K mg base 3 "_law_edge_word" ["d", "width"] g__law_edge_word) (c__law_pair_ops : Cal P w K mg base 1 "_law_pair_ops" [] g__law_pair_ops) (c__law_told_twice : Cal P w K mg base 4 "_law_told_twice" ["op", "args", "widths", "width", "due"] g__law_told_twice) : FnOk P w K mg base CX0 5 f fd ["d"] (spD K 1 g__law_drawn_told) :=
  fn_ok F sc__law_drawn_told (by decide) (fun cdv A outer s H E hr G =>
  (bd_cons (sd_set 1 (rd_add (ed_pd pd_int) (ed_pd (pd_rd (rd_cal c__law_draw hr (by decide) rfl (ad_cons (ed_var 0) (ad_cons (ed_pd pd_int) ad_nil)) (many_cons (many_cons many_nil)))))) sc__law_drawn_told.nd)
 (bd_cons (sd_set 2 (rd_cal c__law_edge_word hr (by decide) rfl (ad_cons (ed_var 0) (ad_cons (ed_pd (pd_ed (ed_var 1))) ad_nil)) (many_cons (many_cons many_nil))) sc__law_drawn_told.nd)
 (bd_cons (sd_set 3 (rd_cal c__law_edge_word hr (by decide) rfl (ad_cons (ed_var 0) (ad_cons (ed_pd (pd_ed (ed_var 1))) ad_nil)) (many_cons (many_cons many_nil))) sc__law_drawn_told.nd)
 (bd_cons (sd_for PassesOwn.never rfl (id_seq (ed_pd (pd_rd (rd_add (ed_pd (pd_rd (rd_cal0 c__law_pair_ops hr (by decide) rfl))) (ed_pd (pd_rd (rd_lst (qd_cons pd_str (qd_cons pd_str qd_nil))))))))) (gd_name 4 sc__law_drawn_told.nd)
 (bd_cons (sd_asg (pd_rd (rd_cal c__law_case hr (by decide) rfl (ad_cons (ed_pd (pd_ed (ed_var 4))) (ad_cons (ed_pd (pd_ed (ed_var 2))) (ad_cons (ed_pd (pd_ed (ed_var 3))) (ad_cons (ed_pd (pd_ed (ed_var 1))) ad_nil)))) (many_cons (many_cons (many_cons (many_cons many_nil)))))) (gd_tup rfl (gds_cons (gd_name 5 sc__law_drawn_told.nd) (gds_cons (gd_name 6 sc__law_drawn_told.nd) (gds_cons (gd_name 7 sc__law_drawn_told.nd) (gds_cons (gd_name 8 sc__law_drawn_told.nd) gds_nil))))))
 (bd_one (sd_if (td_not (td_rd (rd_cal c__law_told_twice hr (by decide) rfl (ad_cons (ed_pd (pd_ed (ed_var 4))) (ad_cons (ed_pd (pd_ed (ed_var 5))) (ad_cons (ed_pd (pd_ed (ed_var 6))) (ad_cons (ed_pd (pd_ed (ed_var 7))) (ad_cons (ed_pd (pd_ed (ed_var 8))) ad_nil))))) (many_cons (many_cons (many_cons (many_cons (many_cons many_nil))))))))
 (bd_one (sd_ret (rd_pd pd_bool)))
 bd_nil))))
 (bd_one (sd_ret (rd_pd pd_bool))))))))
/-! _law_join_told: 0 low, 1 high, 2 one, 3 two, 4 due -/
abbrev s__law_join_told : Stmt := top 21
abbrev N__law_join_told : List Str := ["low", "high", "one", "two", "due"]
theorem sc__law_join_told : FnScope ["low", "high", "one", "two", "due"] ["low", "high", "one", "two"] (defScope s__law_join_told) := ⟨rfl, rfl, rfl, by decide +kernel, rfl, by decide +kernel, by decide +kernel⟩
noncomputable def b__law_join_told : Os := (oSeq (oSet 4 (oCall g__law_word (oCons (oPu (oFrz (oBin fAdd (oPu (oFrz (oCall g__law_bits (oCons (oPu (oKeep (oVar 2))) (oCons (oPu (oKeep (oVar 0))) oNil))))) (oPu (oFrz (oCall g__law_bits (oCons (oPu (oKeep (oVar 3))) (oCons (oPu (oKeep (oVar 1))) oNil)))))))) oNil)))
 (oRet (oCall g__law_told_twice (oCons (oPu (oC (.str "join"))) (oCons (oPu (oTup (oCons (oKeep (oVar 2)) (oCons (oKeep (oVar 3)) oNil)))) (oCons (oPu (oTup (oCons (oKeep (oVar 0)) (oCons (oKeep (oVar 1)) oNil)))) (oCons (oPu (oFrz (oBin fAdd (oVar 0) (oVar 1)))) (oCons (oPu (oKeep (oVar 4))) oNil))))))))
noncomputable def g__law_join_told : Fn := fnOf 5 b__law_join_told
theorem ok__law_join_told {P : Program} {w : World} {K : PySem.W.Frag} {mg : Str → Option Value} {base : Heap} {f : Addr} {fd : FuncData} (M : Mg K mg) (F : FnP K "_law_join_told" s__law_join_told f fd) (c__law_bits : Cal P w K mg base 1 "_law_bits" ["value", "width"] g__law_bits) (c__law_told_twice : Cal P w K mg base 4 "_law_told_twice" ["op", "args", "widths", "width", "due"] g__law_told_twice) (c__law_word : Cal P w K mg base 1 "_law_word" ["bits"] g__law_word) : FnOk P w K mg base CX0 5 f fd ["low", "high", "one", "two"] (spD K 4 g__law_join_told) :=
  fn_ok F sc__law_join_told (by decide) (fun cdv A outer s H E hr G =>
  (bd_cons (sd_set 4 (rd_cal c__law_word hr (by decide) rfl (ad_cons (ed_pd (pd_rd (rd_add (ed_pd (pd_rd (rd_cal c__law_bits hr (by decide) rfl (ad_cons (ed_pd (pd_ed (ed_var 2))) (ad_cons (ed_pd (pd_ed (ed_var 0))) ad_nil)) (many_cons (many_cons many_nil))))) (ed_pd (pd_rd (rd_cal c__law_bits hr (by decide) rfl (ad_cons (ed_pd (pd_ed (ed_var 3))) (ad_cons (ed_pd (pd_ed (ed_var 1))) ad_nil)) (many_cons (many_cons many_nil)))))))) ad_nil) (many_cons many_nil)) sc__law_join_told.nd)
 (bd_one (sd_ret (rd_cal c__law_told_twice hr (by decide) rfl (ad_cons (ed_pd pd_str) (ad_cons (ed_pd (pd_tup (qd_cons (pd_ed (ed_var 2)) (qd_cons (pd_ed (ed_var 3)) qd_nil)))) (ad_cons (ed_pd (pd_tup (qd_cons (pd_ed (ed_var 0)) (qd_cons (pd_ed (ed_var 1)) qd_nil)))) (ad_cons (ed_pd (pd_rd (rd_add (ed_var 0) (ed_var 1)))) (ad_cons (ed_pd (pd_ed (ed_var 4))) ad_nil))))) (many_cons (many_cons (many_cons (many_cons (many_cons many_nil))))))))))
/-! _law_joins_told: 0 d, 1 low, 2 high, 3 one, 4 two -/
abbrev s__law_joins_told : Stmt := top 22
abbrev N__law_joins_told : List Str := ["d", "low", "high", "one", "two"]
theorem sc__law_joins_told : FnScope ["d", "low", "high", "one", "two"] ["d"] (defScope s__law_joins_told) := ⟨rfl, rfl, rfl, by decide +kernel, rfl, by decide +kernel, by decide +kernel⟩
noncomputable def b__law_joins_told : Os := (oSeq (oFor (oItm (oPu (oTup (oCons (oC (.int 1)) (oCons (oC (.int 2)) oNil))))) (gNm 1)
 (oFor (oItm (oPu (oTup (oCons (oC (.int 1)) (oCons (oC (.int 2)) oNil))))) (gNm 2)
 (oFor (oRange (oCons (oFrz (oBin fShl (oPu (oC (.int 1))) (oVar 1))) oNil)) (gNm 3)
 (oIfS (oNot (oTst (oCB fAll (oCons (oPu (oFrz (oLc [4] (oRange (oCons (oFrz (oBin fShl (oPu (oC (.int 1))) (oVar 2))) oNil)) (gNm 4) oYes (oFrz (oCall g__law_join_told (oCons (oPu (oKeep (oVar 1))) (oCons (oPu (oKeep (oVar 2))) (oCons (oPu (oKeep (oVar 3))) (oCons (oPu (oKeep (oVar 4))) oNil))))))))) oNil))))
 (oRet (oRes (oC (.bool false))))
 oNext))))
 (oSeq (oSet 1 (oBin fAdd (oPu (oC (.int 1))) (oPu (oFrz (oCall g__law_draw (oCons (oVar 0) (oCons (oPu (oC (.int 7))) oNil)))))))
 (oSeq (oSet 2 (oBin fAdd (oPu (oC (.int 1))) (oPu (oFrz (oCall g__law_draw (oCons (oVar 0) (oCons (oPu (oFrz (oBin fSub (oPu (oC (.int 8))) (oVar 1)))) oNil)))))))
 (oSeq (oSet 3 (oCall g__law_edge_word (oCons (oVar 0) (oCons (oPu (oKeep (oVar 1))) oNil))))
 (oRet (oCall g__law_join_told (oCons (oPu (oKeep (oVar 1))) (oCons (oPu (oKeep (oVar 2))) (oCons (oPu (oKeep (oVar 3))) (oCons (oPu (oFrz (oCall g__law_edge_word (oCons (oVar 0) (oCons (oPu (oKeep (oVar 2))) oNil))))) oNil))))))))))
noncomputable def g__law_joins_told : Fn := fnOf 5 b__law_joins_told
theorem ok__law_joins_told {P : Program} {w : World} {K : PySem.W.Frag} {mg : Str → Option Value} {base : Heap} {f : Addr} {fd : FuncData} (M : Mg K mg) (F : FnP K "_law_joins_told" s__law_joins_told f fd) (c__law_draw : Cal P w K mg base 1 "_law_draw" ["d", "many"] g__law_draw) (c__law_edge_word : Cal P w K mg base 3 "_law_edge_word" ["d", "width"] g__law_edge_word) (c__law_join_told : Cal P w K mg base 5 "_law_join_told" ["low", "high", "one", "two"] g__law_join_told) : FnOk P w K mg base CX0 6 f fd ["d"] (spD K 1 g__law_joins_told) :=
  fn_ok F sc__law_joins_told (by decide) (fun cdv A outer s H E hr G =>
  (bd_cons (sd_for PassesOwn.never rfl (id_seq (ed_pd (pd_tup (qd_cons pd_int (qd_cons pd_int qd_nil))))) (gd_name 1 sc__law_joins_told.nd)
 (bd_one (sd_for PassesOwn.never rfl (id_seq (ed_pd (pd_tup (qd_cons pd_int (qd_cons pd_int qd_nil))))) (gd_name 2 sc__law_joins_told.nd)
 (bd_one (sd_for PassesOwn.never rfl (id_range1 rfl M.f_range (qd_cons (pd_rd (rd_shl (ed_pd pd_int) (ed_var 1))) qd_nil)) (gd_name 3 sc__law_joins_told.nd)
 (bd_one (sd_if (td_not (td_rd (zb_all rfl rfl M.f_all (ad_cons (ed_pd (pd_rd (rd_lc (own := [("two", 4)]) (T := [4]) rfl sc__law_joins_told.nd (by decide) (id_range1 rfl M.f_range (qd_cons (pd_rd (rd_shl (ed_pd pd_int) (ed_var 2))) qd_nil)) (blkOk_by (N := N__law_joins_told) (sc := defScope s__law_joins_told) (by decide +kernel)) (fun _ _ _ _ _ _ => (gd_name 4 sc__law_joins_told.nd)) (fun _ _ _ _ _ _ => tsd_nil) (fun _ _ _ _ _ _ => (pd_rd (rd_cal c__law_join_told hr (by decide) rfl (ad_cons (ed_pd (pd_ed (ed_var 1))) (ad_cons (ed_pd (pd_ed (ed_var 2))) (ad_cons (ed_pd (pd_ed (ed_var 3))) (ad_cons (ed_pd (pd_ed (ed_var 4))) ad_nil)))) (many_cons (many_cons (many_cons (many_cons many_nil)))))))))) ad_nil))))
 (bd_one (sd_ret (rd_pd pd_bool)))
 bd_nil)))))))
 (bd_cons (sd_set 1 (rd_add (ed_pd pd_int) (ed_pd (pd_rd (rd_cal c__law_draw hr (by decide) rfl (ad_cons (ed_var 0) (ad_cons (ed_pd pd_int) ad_nil)) (many_cons (many_cons many_nil)))))) sc__law_joins_told.nd)
 (bd_cons (sd_set 2 (rd_add (ed_pd pd_int) (ed_pd (pd_rd (rd_cal c__law_draw hr (by decide) rfl (ad_cons (ed_var 0) (ad_cons (ed_pd (pd_rd (rd_sub (ed_pd pd_int) (ed_var 1)))) ad_nil)) (many_cons (many_cons many_nil)))))) sc__law_joins_told.nd)
 (bd_cons (sd_set 3 (rd_cal c__law_edge_word hr (by decide) rfl (ad_cons (ed_var 0) (ad_cons (ed_pd (pd_ed (ed_var 1))) ad_nil)) (many_cons (many_cons many_nil))) sc__law_joins_told.nd)
 (bd_one (sd_ret (rd_cal c__law_join_told hr (by decide) rfl (ad_cons (ed_pd (pd_ed (ed_var 1))) (ad_cons (ed_pd (pd_ed (ed_var 2))) (ad_cons (ed_pd (pd_ed (ed_var 3))) (ad_cons (ed_pd (pd_rd (rd_cal c__law_edge_word hr (by decide) rfl (ad_cons (ed_var 0) (ad_cons (ed_pd (pd_ed (ed_var 2))) ad_nil)) (many_cons (many_cons many_nil))))) ad_nil)))) (many_cons (many_cons (many_cons (many_cons many_nil))))))))))))
/-! _law_picks_told: 0 d, 1 width, 2 rows, 3 wide, 4 one, 5 two -/
abbrev s__law_picks_told : Stmt := top 23
abbrev N__law_picks_told : List Str := ["d", "width", "rows", "wide", "one", "two"]
theorem sc__law_picks_told : FnScope ["d", "width", "rows", "wide", "one", "two"] ["d"] (defScope s__law_picks_told) := ⟨rfl, rfl, rfl, by decide +kernel, rfl, by decide +kernel, by decide +kernel⟩
noncomputable def b__law_picks_told : Os := (oSeq (oSet 1 (oBin fAdd (oPu (oC (.int 1))) (oPu (oFrz (oCall g__law_draw (oCons (oVar 0) (oCons (oPu (oC (.int 8))) oNil)))))))
 (oSeq (oSet 2 (oLst (oCons (oTup (oCons (oC (.int 1)) (oCons (oC (.int 0)) (oCons (oC (.int 1)) oNil)))) (oCons (oTup (oCons (oC (.int 1)) (oCons (oC (.int 1)) (oCons (oC (.int 0)) oNil)))) (oCons (oTup (oCons (oC (.int 1)) (oCons (oC (.int 1)) (oCons (oC (.int 1)) oNil)))) (oCons (oTup (oCons (oKeep (oVar 1)) (oCons (oFrz (oCall g__law_edge_word (oCons (oVar 0) (oCons (oPu (oKeep (oVar 1))) oNil)))) (oCons (oFrz (oCall g__law_edge_word (oCons (oVar 0) (oCons (oPu (oKeep (oVar 1))) oNil)))) oNil)))) oNil))))))
 (oSeq (oFor (oItm (oVar 2)) (gTp 3 (gCn (gNm 3) (gCn (gNm 4) (gCn (gNm 5) gNl))))
 (oSeq (oIfS (oNot (oTst (oCall g__law_told_twice (oCons (oPu (oC (.str "pick"))) (oCons (oPu (oTup (oCons (oC (.int 1)) (oCons (oKeep (oVar 4)) (oCons (oKeep (oVar 5)) oNil))))) (oCons (oPu (oTup (oCons (oC (.int 1)) (oCons (oKeep (oVar 3)) (oCons (oKeep (oVar 3)) oNil))))) (oCons (oPu (oKeep (oVar 3))) (oCons (oPu (oKeep (oVar 4))) oNil))))))))
 (oRet (oRes (oC (.bool false))))
 oNext)
 (oIfS (oNot (oTst (oCall g__law_told_twice (oCons (oPu (oC (.str "pick"))) (oCons (oPu (oTup (oCons (oC (.int 0)) (oCons (oKeep (oVar 4)) (oCons (oKeep (oVar 5)) oNil))))) (oCons (oPu (oTup (oCons (oC (.int 1)) (oCons (oKeep (oVar 3)) (oCons (oKeep (oVar 3)) oNil))))) (oCons (oPu (oKeep (oVar 3))) (oCons (oPu (oKeep (oVar 5))) oNil))))))))
 (oRet (oRes (oC (.bool false))))
 oNext)))
 (oRet (oRes (oC (.bool true)))))))
noncomputable def g__law_picks_told : Fn := fnOf 6 b__law_picks_told
theorem ok__law_picks_told {P : Program} {w : World} {K : PySem.W.Frag} {mg : Str → Option Value} {base : Heap} {f : Addr} {fd : FuncData} (M : Mg K mg) (F : FnP K "_law_picks_told" s__law_picks_told f fd) (c__law_draw : Cal P w K mg base 1 "_law_draw" ["d", "many"] g__law_draw) (c__law_edge_word : Cal P w K mg base 3 "_law_edge_word" ["d", "width"] g__law_edge_word) (c__law_told_twice : Cal P w K mg base 4 "_law_told_twice" ["op", "args", "widths", "width", "due"] g__law_told_twice) : FnOk P w K mg base CX0 5 f fd ["d"] (spD K 1 g__law_picks_told) :=
  fn_ok F sc__law_picks_told (by decide) (fun cdv A outer s H E hr G =>
  (bd_cons (sd_set 1 (rd_add (ed_pd pd_int) (ed_pd (pd_rd (rd_cal c__law_draw hr (by decide) rfl (ad_cons (ed_var 0) (ad_cons (ed_pd pd_int) ad_nil)) (many_cons (many_cons many_nil)))))) sc__law_picks_told.nd)
 (bd_cons (sd_set 2 (rd_lst (qd_cons (pd_tup (qd_cons pd_int (qd_cons pd_int (qd_cons pd_int qd_nil)))) (qd_cons (pd_tup (qd_cons pd_int (qd_cons pd_int (qd_cons pd_int qd_nil)))) (qd_cons (pd_tup (qd_cons pd_int (qd_cons pd_int (qd_cons pd_int qd_nil)))) (qd_cons (pd_tup (qd_cons (pd_ed (ed_var 1)) (qd_cons (pd_rd (rd_cal c__law_edge_word hr (by decide) rfl (ad_cons (ed_var 0) (ad_cons (ed_pd (pd_ed (ed_var 1))) ad_nil)) (many_cons (many_cons many_nil)))) (qd_cons (pd_rd (rd_cal c__law_edge_word hr (by decide) rfl (ad_cons (ed_var 0) (ad_cons (ed_pd (pd_ed (ed_var 1))) ad_nil)) (many_cons (many_cons many_nil)))) qd_nil)))) qd_nil))))) sc__law_picks_told.nd)
 (bd_cons (sd_for PassesOwn.never rfl (id_seq (ed_var 2)) (gd_tup rfl (gds_cons (gd_name 3 sc__law_picks_told.nd) (gds_cons (gd_name 4 sc__law_picks_told.nd) (gds_cons (gd_name 5 sc__law_picks_told.nd) gds_nil))))
 (bd_cons (sd_if (td_not (td_rd (rd_cal c__law_told_twice hr (by decide) rfl (ad_cons (ed_pd pd_str) (ad_cons (ed_pd (pd_tup (qd_cons pd_int (qd_cons (pd_ed (ed_var 4)) (qd_cons (pd_ed (ed_var 5)) qd_nil))))) (ad_cons (ed_pd (pd_tup (qd_cons pd_int (qd_cons (pd_ed (ed_var 3)) (qd_cons (pd_ed (ed_var 3)) qd_nil))))) (ad_cons (ed_pd (pd_ed (ed_var 3))) (ad_cons (ed_pd (pd_ed (ed_var 4))) ad_nil))))) (many_cons (many_cons (many_cons (many_cons (many_cons many_nil))))))))
 (bd_one (sd_ret (rd_pd pd_bool)))
 bd_nil)
 (bd_one (sd_if (td_not (td_rd (rd_cal c__law_told_twice hr (by decide) rfl (ad_cons (ed_pd pd_str) (ad_cons (ed_pd (pd_tup (qd_cons pd_int (qd_cons (pd_ed (ed_var 4)) (qd_cons (pd_ed (ed_var 5)) qd_nil))))) (ad_cons (ed_pd (pd_tup (qd_cons pd_int (qd_cons (pd_ed (ed_var 3)) (qd_cons (pd_ed (ed_var 3)) qd_nil))))) (ad_cons (ed_pd (pd_ed (ed_var 3))) (ad_cons (ed_pd (pd_ed (ed_var 5))) ad_nil))))) (many_cons (many_cons (many_cons (many_cons (many_cons many_nil))))))))
 (bd_one (sd_ret (rd_pd pd_bool)))
 bd_nil))))
 (bd_one (sd_ret (rd_pd pd_bool)))))))
/-! _law_reads_told: 0 d, 1 count, 2 wide, 3 width, 4 words, 5 address, 6 due, 7 k -/
abbrev s__law_reads_told : Stmt := top 24
abbrev N__law_reads_told : List Str := ["d", "count", "wide", "width", "words", "address", "due", "k"]
theorem sc__law_reads_told : FnScope ["d", "count", "wide", "width", "words", "address", "due", "k"] ["d"] (defScope s__law_reads_told) := ⟨rfl, rfl, rfl, by decide +kernel, rfl, by decide +kernel, by decide +kernel⟩
noncomputable def b__law_reads_told : Os := (oSeq (oSet 1 (oBin fAdd (oPu (oC (.int 1))) (oPu (oFrz (oCall g__law_draw (oCons (oVar 0) (oCons (oPu (oC (.int 8))) oNil)))))))
 (oSeq (oSet 2 (oCall g__law_address (oCons (oPu (oKeep (oVar 1))) oNil)))
 (oSeq (oSet 3 (oBin fAdd (oPu (oC (.int 1))) (oPu (oFrz (oCall g__law_draw (oCons (oVar 0) (oCons (oPu (oC (.int 8))) oNil)))))))
 (oSeq (oSet 4 (oLc [7] (oRange (oCons (oKeep (oVar 1)) oNil)) (gNm 7) oYes (oFrz (oCall g__law_edge_word (oCons (oVar 0) (oCons (oPu (oKeep (oVar 3))) oNil))))))
 (oSeq (oFor (oRange (oCons (oFrz (oBin fShl (oPu (oC (.int 1))) (oVar 2))) oNil)) (gNm 5)
 (oSeq (oSet 6 (oIf (oTst (oBin fLt (oVar 5) (oVar 1))) (oBin fIx (oVar 4) (oVar 5)) (oRes (oC (.int 0)))))
 (oIfS (oNot (oTst (oCall g__law_told_twice (oCons (oPu (oC (.str "read"))) (oCons (oPu (oFrz (oBin fAdd (oPu (oFrz (oLst (oCons (oKeep (oVar 5)) oNil)))) (oVar 4)))) (oCons (oPu (oFrz (oBin fAdd (oPu (oFrz (oLst (oCons (oKeep (oVar 2)) oNil)))) (oPu (oFrz (oBin fMulY (oPu (oFrz (oLst (oCons (oKeep (oVar 3)) oNil)))) (oVar 1))))))) (oCons (oPu (oKeep (oVar 3))) (oCons (oPu (oKeep (oVar 6))) oNil))))))))
 (oRet (oRes (oC (.bool false))))
 oNext)))
 (oRet (oRes (oC (.bool true)))))))))
noncomputable def g__law_reads_told : Fn := fnOf 8 b__law_reads_told
theorem ok__law_reads_told {P : Program} {w : World} {K : PySem.W.Frag} {mg : Str → Option Value} {base : Heap} {f : Addr} {fd : FuncData} (M : Mg K mg) (F : FnP K "_law_reads_told" s__law_reads_told f fd) (c__law_address : Cal P w K mg base 1 "_law_address" ["count"] g__law_address) (c__law_draw : Cal P w K mg base 1 "_law_draw" ["d", "many"] g__law_draw) (c__law_edge_word : Cal P w K mg base 3 "_law_edge_word" ["d", "width"] g__law_edge_word) (c__law_told_twice : Cal P w K mg base 4 "_law_told_twice" ["op", "args", "widths", "width", "due"] g__law_told_twice) : FnOk P w K mg base CX0 5 f fd ["d"] (spD K 1 g__law_reads_told) :=
  fn_ok F sc__law_reads_told (by decide) (fun cdv A outer s H E hr G =>
  (bd_cons (sd_set 1 (rd_add (ed_pd pd_int) (ed_pd (pd_rd (rd_cal c__law_draw hr (by decide) rfl (ad_cons (ed_var 0) (ad_cons (ed_pd pd_int) ad_nil)) (many_cons (many_cons many_nil)))))) sc__law_reads_told.nd)
 (bd_cons (sd_set 2 (rd_cal c__law_address hr (by decide) rfl (ad_cons (ed_pd (pd_ed (ed_var 1))) ad_nil) (many_cons many_nil)) sc__law_reads_told.nd)
 (bd_cons (sd_set 3 (rd_add (ed_pd pd_int) (ed_pd (pd_rd (rd_cal c__law_draw hr (by decide) rfl (ad_cons (ed_var 0) (ad_cons (ed_pd pd_int) ad_nil)) (many_cons (many_cons many_nil)))))) sc__law_reads_told.nd)
 (bd_cons (sd_setLc 4 (own := [("k", 7)]) (T := [7]) rfl sc__law_reads_told.nd (by decide) rfl rfl (sw_true rfl rfl rfl (by decide +kernel)) (id_range1 rfl M.f_range (qd_cons (pd_ed (ed_var 1)) qd_nil)) (blkOk_by (N := N__law_reads_told) (sc := defScope s__law_reads_told) (by decide +kernel)) (fun _ _ _ _ _ _ => (gd_name 7 sc__law_reads_told.nd)) (fun _ _ _ _ _ _ => tsd_nil) (fun _ _ _ _ _ _ => (pd_rd (rd_cal c__law_edge_word hr (by decide) rfl (ad_cons (ed_var 0) (ad_cons (ed_pd (pd_ed (ed_var 3))) ad_nil)) (many_cons (many_cons many_nil))))))
 (bd_cons (sd_for PassesOwn.never rfl (id_range1 rfl M.f_range (qd_cons (pd_rd (rd_shl (ed_pd pd_int) (ed_var 2))) qd_nil)) (gd_name 5 sc__law_reads_told.nd)
 (bd_cons (sd_set 6 (rd_if (td_ck ck_lt (ed_var 5) (ed_var 1)) (rd_ix (ed_var 4) (ed_var 5)) (rd_pd pd_int)) sc__law_reads_told.nd)
 (bd_one (sd_if (td_not (td_rd (rd_cal c__law_told_twice hr (by decide) rfl (ad_cons (ed_pd pd_str) (ad_cons (ed_pd (pd_rd (rd_add (ed_pd (pd_rd (rd_lst (qd_cons (pd_ed (ed_var 5)) qd_nil)))) (ed_var 4)))) (ad_cons (ed_pd (pd_rd (rd_add (ed_pd (pd_rd (rd_lst (qd_cons (pd_ed (ed_var 2)) qd_nil)))) (ed_pd (pd_rd (rd_mulY (ed_pd (pd_rd (rd_lst (qd_cons (pd_ed (ed_var 3)) qd_nil)))) (ed_var 1))))))) (ad_cons (ed_pd (pd_ed (ed_var 3))) (ad_cons (ed_pd (pd_ed (ed_var 6))) ad_nil))))) (many_cons (many_cons (many_cons (many_cons (many_cons many_nil))))))))
 (bd_one (sd_ret (rd_pd pd_bool)))
 bd_nil))))
 (bd_one (sd_ret (rd_pd pd_bool)))))))))
/-! _law_conditions: 0 d, 1 many, 2 rows, 3 k, 4 place, 5 j -/
abbrev s__law_conditions : Stmt := top 25
abbrev N__law_conditions : List Str := ["d", "many", "rows", "k", "place", "j"]
theorem sc__law_conditions : FnScope ["d", "many", "rows", "k", "place", "j"] ["d", "many"] (defScope s__law_conditions) := ⟨rfl, rfl, rfl, by decide +kernel, rfl, by decide +kernel, by decide +kernel⟩
noncomputable def b__law_conditions : Os := (oSeq (oIfS (oTst (oBin fLt (oVar 1) (oPu (oC (.int 4)))))
 (oRet (oCall g__law_all_bits (oCons (oPu (oKeep (oVar 1))) oNil)))
 oNext)
 (oSeq (oSet 2 (oLst oNil))
 (oSeq (oFor (oRange (oCons (oC (.int 8)) oNil)) (gNm 3)
 (oSeq (oSet 4 (oCall g__law_draw (oCons (oVar 0) (oCons (oPu (oFrz (oBin fAdd (oVar 1) (oPu (oC (.int 1)))))) oNil))))
 (oDrop (oPu (oMutK 2 fAppend (oCons (oFrz (oCB fTuple (oCons (oPu (oFrz (oLc [5] (oRange (oCons (oKeep (oVar 1)) oNil)) (gNm 5) oYes (oFrz (oCB fIntX (oCons (oPu (oOrV (oFrz (oBin fEq (oVar 5) (oVar 4))) (oAndV (oFrz (oBin fGt (oVar 5) (oVar 4))) (oFrz (oBin fEq (oPu (oFrz (oCall g__law_draw (oCons (oVar 0) (oCons (oPu (oC (.int 2))) oNil))))) (oPu (oC (.int 1)))))))) oNil)))))) oNil))) oNil))))))
 (oRetV 2))))
noncomputable def g__law_conditions : Fn := fnOf 6 b__law_conditions
theorem ok__law_conditions {P : Program} {w : World} {K : PySem.W.Frag} {mg : Str → Option Value} {base : Heap} {f : Addr} {fd : FuncData} (M : Mg K mg) (F : FnP K "_law_conditions" s__law_conditions f fd) (c__law_all_bits : Cal P w K mg base 2 "_law_all_bits" ["many"] g__law_all_bits) (c__law_draw : Cal P w K mg base 1 "_law_draw" ["d", "many"] g__law_draw) : FnOk P w K mg base CX0 3 f fd ["d", "many"] (spD K 2 g__law_conditions) :=
  fn_ok F sc__law_conditions (by decide) (fun cdv A outer s H E hr G =>
  (bd_cons (sd_if (td_ck ck_lt (ed_var 1) (ed_pd pd_int))
 (bd_one (sd_ret (rd_cal c__law_all_bits hr (by decide) rfl (ad_cons (ed_pd (pd_ed (ed_var 1))) ad_nil) (many_cons many_nil))))
 bd_nil)
 (bd_cons (sd_set 2 (rd_lst qd_nil) sc__law_conditions.nd)
 (bd_cons (sd_for PassesOwn.never rfl (id_range1 rfl M.f_range (qd_cons pd_int qd_nil)) (gd_name 3 sc__law_conditions.nd)
 (bd_cons (sd_set 4 (rd_cal c__law_draw hr (by decide) rfl (ad_cons (ed_var 0) (ad_cons (ed_pd (pd_rd (rd_add (ed_var 1) (ed_pd pd_int)))) ad_nil)) (many_cons (many_cons many_nil))) sc__law_conditions.nd)
 (bd_one (sd_expr (ed_pd (zl_append 2 (qd_cons (pd_rd (zb_tuple rfl M.f_tuple (ad_cons (ed_pd (pd_rd (rd_lc (own := [("j", 5)]) (T := [5]) rfl sc__law_conditions.nd (by decide) (id_range1 rfl M.f_range (qd_cons (pd_ed (ed_var 1)) qd_nil)) (blkOk_by (N := N__law_conditions) (sc := defScope s__law_conditions) (by decide +kernel)) (fun _ _ _ _ _ _ => (gd_name 5 sc__law_conditions.nd)) (fun _ _ _ _ _ _ => tsd_nil) (fun _ _ _ _ _ _ => (pd_rd (zb_int rfl M.f_int (ad_cons (ed_pd (pd_or (pd_rd (rd_ck (ck_eq hr) (ed_var 5) (ed_var 4))) (pd_one (pd_and (pd_rd (rd_ck ck_gt (ed_var 5) (ed_var 4))) (pd_one (pd_rd (rd_ck (ck_eq hr) (ed_pd (pd_rd (rd_cal c__law_draw hr (by decide) rfl (ad_cons (ed_var 0) (ad_cons (ed_pd pd_int) ad_nil)) (many_cons (many_cons many_nil))))) (ed_pd pd_int)))))))) ad_nil))))))) ad_nil))) qd_nil)))))))
 (bd_one (sd_retV 2))))))
/-! _law_firsts_told: 0 d, 1 many, 2 width, 3 words, 4 row, 5 args, 6 k, 7 open_places, 8 due -/
abbrev s__law_firsts_told : Stmt := top 26
abbrev N__law_firsts_told : List Str := ["d", "many", "width", "words", "row", "args", "k", "open_places", "due"]
theorem sc__law_firsts_told : FnScope ["d", "many", "width", "words", "row", "args", "k", "open_places", "due"] ["d"] (defScope s__law_firsts_told) := ⟨rfl, rfl, rfl, by decide +kernel, rfl, by decide +kernel, by decide +kernel⟩
noncomputable def b__law_firsts_told : Os := (oSeq (oSet 1 (oIf (oTst (oCall g__law_rare (oCons (oVar 0) (oCons (oPu (oC (.int 12))) oNil)))) (oRes (oC (.int 40))) (oCall g__law_draw (oCons (oVar 0) (oCons (oPu (oC (.int 4))) oNil)))))
 (oSeq (oSet 2 (oBin fAdd (oPu (oC (.int 1))) (oPu (oFrz (oCall g__law_draw (oCons (oVar 0) (oCons (oPu (oC (.int 8))) oNil)))))))
 (oSeq (oSet 3 (oLc [6] (oRange (oCons (oFrz (oBin fAdd (oVar 1) (oPu (oC (.int 1))))) oNil)) (gNm 6) oYes (oFrz (oCall g__law_edge_word (oCons (oVar 0) (oCons (oPu (oKeep (oVar 2))) oNil))))))
 (oSeq (oFor (oItm (oPu (oFrz (oCall g__law_conditions (oCons (oVar 0) (oCons (oPu (oKeep (oVar 1))) oNil)))))) (gNm 4)
 (oSeq (oSet 5 (oLst oNil))
 (oSeq (oFor (oRange (oCons (oKeep (oVar 1)) oNil)) (gNm 6)
 (oDrop (oPu (oMut 5 fExtend (oCons (oPu (oFrz (oLst (oCons (oFrz (oBin fIx (oVar 4) (oVar 6))) (oCons (oFrz (oBin fIx (oVar 3) (oVar 6))) oNil))))) oNil)))))
 (oSeq (oSet 7 (oBin fAdd (oPu (oFrz (oLc [6] (oRange (oCons (oKeep (oVar 1)) oNil)) (gNm 6) (oTst (oBin fEq (oPu (oFrz (oBin fIx (oVar 4) (oVar 6)))) (oPu (oC (.int 1))))) (oKeep (oVar 6))))) (oPu (oFrz (oLst (oCons (oKeep (oVar 1)) oNil))))))
 (oSeq (oSet 8 (oBin fIx (oVar 3) (oPu (oFrz (oBin fIx (oVar 7) (oPu (oC (.int 0))))))))
 (oIfS (oNot (oTst (oCall g__law_told_twice (oCons (oPu (oC (.str "first"))) (oCons (oPu (oFrz (oBin fAdd (oVar 5) (oPu (oFrz (oLst (oCons (oFrz (oBin fIx (oVar 3) (oVar 1))) oNil))))))) (oCons (oPu (oFrz (oBin fAdd (oPu (oFrz (oBin fMulY (oPu (oFrz (oLst (oCons (oC (.int 1)) (oCons (oKeep (oVar 2)) oNil))))) (oVar 1)))) (oPu (oFrz (oLst (oCons (oKeep (oVar 2)) oNil))))))) (oCons (oPu (oKeep (oVar 2))) (oCons (oPu (oKeep (oVar 8))) oNil))))))))
 (oRet (oRes (oC (.bool false))))
 oNext))))))
 (oRet (oRes (oC (.bool true))))))))
noncomputable def g__law_firsts_told : Fn := fnOf 9 b__law_firsts_told
theorem ok__law_firsts_told {P : Program} {w : World} {K : PySem.W.Frag} {mg : Str → Option Value} {base : Heap} {f : Addr} {fd : FuncData} (M : Mg K mg) (F : FnP K "_law_firsts_told" s__law_firsts_told f fd) (c__law_conditions : Cal P w K mg base 3 "_law_conditions" ["d", "many"] g__law_conditions) (c__law_draw : Cal P w K mg base 1 "_law_draw" ["d", "many"] g__law_draw) (c__law_edge_word : Cal P w K mg base 3 "_law_edge_word" ["d", "width"] g__law_edge_word) (c__law_rare : Cal P w K mg base 2 "_law_rare" ["d", "many"] g__law_rare) (c__law_told_twice : Cal P w K mg base 4 "_law_told_twice" ["op", "args", "widths", "width", "due"] g__law_told_twice) : FnOk P w K mg base CX0 5 f fd ["d"] (spD K 1 g__law_firsts_told) :=
  fn_ok F sc__law_firsts_told (by decide) (fun cdv A outer s H E hr G =>
  (bd_cons (sd_set 1 (rd_if (td_rd (rd_cal c__law_rare hr (by decide) rfl (ad_cons (ed_var 0) (ad_cons (ed_pd pd_int) ad_nil)) (many_cons (many_cons many_nil)))) (rd_pd pd_int) (rd_cal c__law_draw hr (by decide) rfl (ad_cons (ed_var 0) (ad_cons (ed_pd pd_int) ad_nil)) (many_cons (many_cons many_nil)))) sc__law_firsts_told.nd)
 (bd_cons (sd_set 2 (rd_add (ed_pd pd_int) (ed_pd (pd_rd (rd_cal c__law_draw hr (by decide) rfl (ad_cons (ed_var 0) (ad_cons (ed_pd pd_int) ad_nil)) (many_cons (many_cons many_nil)))))) sc__law_firsts_told.nd)
 (bd_cons (sd_setLc 3 (own := [("k", 6)]) (T := [6]) rfl sc__law_firsts_told.nd (by decide) rfl rfl (sw_true rfl rfl rfl (by decide +kernel)) (id_range1 rfl M.f_range (qd_cons (pd_rd (rd_add (ed_var 1) (ed_pd pd_int))) qd_nil)) (blkOk_by (N := N__law_firsts_told) (sc := defScope s__law_firsts_told) (by decide +kernel)) (fun _ _ _ _ _ _ => (gd_name 6 sc__law_firsts_told.nd)) (fun _ _ _ _ _ _ => tsd_nil) (fun _ _ _ _ _ _ => (pd_rd (rd_cal c__law_edge_word hr (by decide) rfl (ad_cons (ed_var 0) (ad_cons (ed_pd (pd_ed (ed_var 2))) ad_nil)) (many_cons (many_cons many_nil))))))
 (bd_cons (sd_for PassesOwn.never rfl (id_seq (ed_pd (pd_rd (rd_cal c__law_conditions hr (by decide) rfl (ad_cons (ed_var 0) (ad_cons (ed_pd (pd_ed (ed_var 1))) ad_nil)) (many_cons (many_cons many_nil)))))) (gd_name 4 sc__law_firsts_told.nd)
 (bd_cons (sd_set 5 (rd_lst qd_nil) sc__law_firsts_told.nd)
 (bd_cons (sd_for PassesOwn.never rfl (id_range1 rfl M.f_range (qd_cons (pd_ed (ed_var 1)) qd_nil)) (gd_name 6 sc__law_firsts_told.nd)
 (bd_one (sd_expr (ed_pd (zl_extend 5 (ad_cons (ed_pd (pd_rd (rd_lst (qd_cons (pd_rd (rd_ix (ed_var 4) (ed_var 6))) (qd_cons (pd_rd (rd_ix (ed_var 3) (ed_var 6))) qd_nil))))) ad_nil))))))
 (bd_cons (sd_set 7 (rd_add (ed_pd (pd_rd (rd_lc (own := [("k", 6)]) (T := [6]) rfl sc__law_firsts_told.nd (by decide) (id_range1 rfl M.f_range (qd_cons (pd_ed (ed_var 1)) qd_nil)) (blkOk_by (N := N__law_firsts_told) (sc := defScope s__law_firsts_told) (by decide +kernel)) (fun _ _ _ _ _ _ => (gd_name 6 sc__law_firsts_told.nd)) (fun _ _ _ _ _ _ => (tsd_one (td_ck (ck_eq hr) (ed_pd (pd_rd (rd_ix (ed_var 4) (ed_var 6)))) (ed_pd pd_int)))) (fun _ _ _ _ _ _ => (pd_ed (ed_var 6)))))) (ed_pd (pd_rd (rd_lst (qd_cons (pd_ed (ed_var 1)) qd_nil))))) sc__law_firsts_told.nd)
 (bd_cons (sd_set 8 (rd_ix (ed_var 3) (ed_pd (pd_rd (rd_ix (ed_var 7) (ed_pd pd_int))))) sc__law_firsts_told.nd)
 (bd_one (sd_if (td_not (td_rd (rd_cal c__law_told_twice hr (by decide) rfl (ad_cons (ed_pd pd_str) (ad_cons (ed_pd (pd_rd (rd_add (ed_var 5) (ed_pd (pd_rd (rd_lst (qd_cons (pd_rd (rd_ix (ed_var 3) (ed_var 1))) qd_nil))))))) (ad_cons (ed_pd (pd_rd (rd_add (ed_pd (pd_rd (rd_mulY (ed_pd (pd_rd (rd_lst (qd_cons pd_int (qd_cons (pd_ed (ed_var 2)) qd_nil))))) (ed_var 1)))) (ed_pd (pd_rd (rd_lst (qd_cons (pd_ed (ed_var 2)) qd_nil))))))) (ad_cons (ed_pd (pd_ed (ed_var 2))) (ad_cons (ed_pd (pd_ed (ed_var 8))) ad_nil))))) (many_cons (many_cons (many_cons (many_cons (many_cons many_nil))))))))
 (bd_one (sd_ret (rd_pd pd_bool)))
 bd_nil)))))))
 (bd_one (sd_ret (rd_pd pd_bool))))))))
/-! law: 0 script, 1 d, 2 wide, 3 k -/
abbrev s_law : Stmt := top 27
abbrev N_law : List Str := ["script", "d", "wide", "k"]
theorem sc_law : FnScope ["script", "d", "wide", "k"] ["script"] (defScope s_law) := ⟨rfl, rfl, rfl, by decide +kernel, rfl, by decide +kernel, by decide +kernel⟩
noncomputable def b_law : Os := (oSeq (oSet 1 (oCall g__law_begin (oCons (oPu (oKeep (oVar 0))) oNil)))
 (oSeq (oSet 2 (oIf (oTst (oCall g__law_rare (oCons (oVar 1) (oCons (oPu (oC (.int 16))) oNil)))) (oRes (oC (.int 4))) (oBin fAdd (oPu (oC (.int 2))) (oPu (oFrz (oCall g__law_draw (oCons (oVar 1) (oCons (oPu (oC (.int 2))) oNil))))))))
 (oSeq (oIfS (oOr (oNot (oTst (oCall g__law_all_told (oCons (oPu (oC (.int 1))) oNil)))) (oNot (oTst (oCall g__law_all_told (oCons (oPu (oKeep (oVar 2))) oNil)))))
 (oRet (oRes (oC (.bool false))))
 oNext)
 (oSeq (oFor (oRange (oCons (oC (.int 3)) oNil)) (gNm 3)
 (oIfS (oNot (oTst (oCall g__law_drawn_told (oCons (oVar 1) oNil))))
 (oRet (oRes (oC (.bool false))))
 oNext))
 (oRet (oRes (oAndV (oFrz (oCall g__law_joins_told (oCons (oVar 1) oNil))) (oAndV (oFrz (oCall g__law_picks_told (oCons (oVar 1) oNil))) (oAndV (oFrz (oCall g__law_reads_told (oCons (oVar 1) oNil))) (oFrz (oCall g__law_firsts_told (oCons (oVar 1) oNil))))))))))))
noncomputable def g_law : Fn := fnOf 4 b_law
theorem ok_law {P : Program} {w : World} {K : PySem.W.Frag} {mg : Str → Option Value} {base : Heap} {f : Addr} {fd : FuncData} (M : Mg K mg) (F : FnP K "law" s_law f fd) (c__law_all_told : Cal P w K mg base 4 "_law_all_told" ["width"] g__law_all_told) (c__law_begin : Cal P w K mg base 1 "_law_begin" ["script"] g__law_begin) (c__law_draw : Cal P w K mg base 1 "_law_draw" ["d", "many"] g__law_draw) (c__law_drawn_told : Cal P w K mg base 5 "_law_drawn_told" ["d"] g__law_drawn_told) (c__law_firsts_told : Cal P w K mg base 5 "_law_firsts_told" ["d"] g__law_firsts_told) (c__law_joins_told : Cal P w K mg base 6 "_law_joins_told" ["d"] g__law_joins_told) (c__law_picks_told : Cal P w K mg base 5 "_law_picks_told" ["d"] g__law_picks_told) (c__law_rare : Cal P w K mg base 2 "_law_rare" ["d", "many"] g__law_rare) (c__law_reads_told : Cal P w K mg base 5 "_law_reads_told" ["d"] g__law_reads_told) : FnOk P w K mg base CX0 7 f fd ["script"] (spD K 1 g_law) :=
  fn_ok F sc_law (by decide) (fun cdv A outer s H E hr G =>
  (bd_cons (sd_set 1 (rd_cal c__law_begin hr (by decide) rfl (ad_cons (ed_pd (pd_ed (ed_var 0))) ad_nil) (many_cons many_nil)) sc_law.nd)
 (bd_cons (sd_set 2 (rd_if (td_rd (rd_cal c__law_rare hr (by decide) rfl (ad_cons (ed_var 1) (ad_cons (ed_pd pd_int) ad_nil)) (many_cons (many_cons many_nil)))) (rd_pd pd_int) (rd_add (ed_pd pd_int) (ed_pd (pd_rd (rd_cal c__law_draw hr (by decide) rfl (ad_cons (ed_var 1) (ad_cons (ed_pd pd_int) ad_nil)) (many_cons (many_cons many_nil))))))) sc_law.nd)
 (bd_cons (sd_if (td_w (wd_or (td_not (td_rd (rd_cal c__law_all_told hr (by decide) rfl (ad_cons (ed_pd pd_int) ad_nil) (many_cons many_nil)))) (wd_or1 (td_not (td_rd (rd_cal c__law_all_told hr (by decide) rfl (ad_cons (ed_pd (pd_ed (ed_var 2))) ad_nil) (many_cons many_nil)))))))
 (bd_one (sd_ret (rd_pd pd_bool)))
 bd_nil)
 (bd_cons (sd_for PassesOwn.never rfl (id_range1 rfl M.f_range (qd_cons pd_int qd_nil)) (gd_name 3 sc_law.nd)
 (bd_one (sd_if (td_not (td_rd (rd_cal c__law_drawn_told hr (by decide) rfl (ad_cons (ed_var 1) ad_nil) (many_cons many_nil))))
 (bd_one (sd_ret (rd_pd pd_bool)))
 bd_nil)))
 (bd_one (sd_ret (rd_pd (pd_and (pd_rd (rd_cal c__law_joins_told hr (by decide) rfl (ad_cons (ed_var 1) ad_nil) (many_cons many_nil))) (pd_and (pd_rd (rd_cal c__law_picks_told hr (by decide) rfl (ad_cons (ed_var 1) ad_nil) (many_cons many_nil))) (pd_and (pd_rd (rd_cal c__law_reads_told hr (by decide) rfl (ad_cons (ed_var 1) ad_nil) (many_cons many_nil))) (pd_one (pd_rd (rd_cal c__law_firsts_told hr (by decide) rfl (ad_cons (ed_var 1) ad_nil) (many_cons many_nil)))))))))))))))
end K09
namespace K09
open PySem Ow
abbrev dS (cs : List Int) (a b c e : Int) : Ct := .li [.list (cs.map .int), .int a, .int b, .int c, .int e]
theorem draw_st (cs : List Int) (a b c e m : Int) (ha : 0 ≤ a) (hm : 0 < m) (hm2 : m < 2 ^ 64) : ∃ r a' b' c', 
    g__law_draw [.ow true (dS cs a b c e), .pu (.int m)] = .ret (.pu (.int r)) [.ow true (dS cs a' b' c' e), .pu (.int m)] ∧ 0 ≤ a' ∧ 0 ≤ r ∧ r < m := by
  have hd : ∀ b, divOk b m = true := fun b => divOk_of hm hm2
  have hd2 : ∀ b, divOk b 2 = true := fun b => divOk_of (by decide) (by decide)
  have hd3 : ∀ b, divOk b 16 = true := fun b => divOk_of (by decide) (by decide)
  have hm1 : ∀ b, mulOk 2 b = true := fun b => mulOk_l (by decide) (by decide)
  have hm2' : ∀ b, mulOk b 48271 = true := fun b => mulOk_r (by decide) (by decide)
  have hm3 : ∀ b, mulOk b 16807 = true := fun b => mulOk_r (by decide) (by decide)
  have hm4 : ∀ b, mulOk b 69621 = true := fun b => mulOk_r (by decide) (by decide)
  have h6 : 0 < (2 : Int) ^ 6000 := Int.pow_pos (by decide)
  have hr : ∀ x : Int, 0 ≤ x % m ∧ x % m < m := fun x => ⟨Int.emod_nonneg _ (by omega), Int.emod_lt_of_pos _ hm⟩
  by_cases hb : 0 < b
  · refine ⟨b % m, a, b / m, c, ?_, ha, hr _⟩
    simp [g__law_draw, fnOf_eq, b__law_draw, ap_var, ap_retV, setSl_eq, stL, L2.ixN, hb, hd, hm]
  · by_cases hl : a < cs.length
    · have hlt : a.toNat < cs.length := by omega
      have hv := List.getElem?_eq_getElem hlt
      generalize hv2 : cs[a.toNat]'hlt = v at hv
      generalize hsz : 2 * (if v < 0 then -v else v) + (if v < 0 then 1 else 0) = sz
      by_cases hs : 2000000000000000000 ≤ sz
      · refine ⟨sz / 2 % 2 ^ 6000 % m, a + 1, sz / 2 % 2 ^ 6000 / m, c, ?_, by omega, hr _⟩
        simp [g__law_draw, fnOf_eq, b__law_draw, ap_var, ap_retV, setSl_eq, stL, L2.ixN, hb, hd, hm, hl, atI_nn ha, hd2, hd3, hm1, hm2', hm3, hm4, hv, hv2, hs, ha, h6, hsz]
      · refine ⟨(c * 48271 + sz % 2147483629 * 16807 + (a + 1) * 69621 + 11) % 2147483647 / 16 % m, a + 1, b, (c * 48271 + sz % 2147483629 * 16807 + (a + 1) * 69621 + 11) % 2147483647, ?_, by omega, hr _⟩
        simp [g__law_draw, fnOf_eq, b__law_draw, ap_var, ap_retV, setSl_eq, stL, L2.ixN, hb, hd, hm, hl, atI_nn ha, hd2, hd3, hm1, hm2', hm3, hm4, hv, hv2, hs, ha, hsz]
    · refine ⟨(c * 48271 + 0 % 2147483629 * 16807 + (a + 1) * 69621 + 11) % 2147483647 / 16 % m, a + 1, b, (c * 48271 + 0 % 2147483629 * 16807 + (a + 1) * 69621 + 11) % 2147483647, ?_, by omega, hr _⟩
      simp [g__law_draw, fnOf_eq, b__law_draw, ap_var, ap_retV, setSl_eq, stL, L2.ixN, hb, hd, hm, hl, atI_nn ha, hd2, hd3, hm1, hm2', hm3, hm4, ha]
def DOK (ds : List D) : Prop := ∃ (cs : List Int) (a b c e : Int), ds = [.list (cs.map .int), .int a, .int b, .int c, .int e] ∧ 0 ≤ a
theorem draw {ds : List D} (h : DOK ds) {m : Int} (hm : 0 < m) (hm2 : m < 2 ^ 64) : ∃ r ds', DOK ds' ∧ 0 ≤ r ∧ r < m ∧ g__law_draw [.ow true (.li ds), .pu (.int m)] = .ret (.pu (.int r)) [.ow true (.li ds'), .pu (.int m)] := by
  obtain ⟨cs, a, b, c, e, rfl, ha⟩ := h
  obtain ⟨r, a', b', c', h1, h2, h3, h4⟩ := draw_st cs a b c e m ha hm hm2
  exact ⟨r, _, ⟨cs, a', b', c', e, rfl, h2⟩, h3, h4, h1⟩
theorem begin_ok (ns : List Int) (hl : ns.length ≤ 63) : ∃ ds, DOK ds ∧ g__law_begin [.pu (scr (ns.map .int))] = .ret (.nw (.li ds)) [.pu (scr (ns.map .int))] := by
  refine ⟨_, ⟨ns, 0, 0, 7, 3, rfl, Int.le_refl _⟩, ?_⟩
  have h : lcL [1] (gNm 1) oYes (oFrz (oCB fIntX (oCons (oVar 1) oNil))) (ns.map PyData.int) [.pu (scr (ns.map .int)), .no] = .ok (ns.map PyData.int) [.pu (scr (ns.map .int)), .no] :=
    lcL_map fun i _ => ⟨[.pu (scr (ns.map .int)), .pu (.int i)], [.pu (scr (ns.map .int)), .pu (.int i)], rfl, by simp [ap_var], rfl⟩
  have hk : ns.length ≤ 16000000 := by omega
  simp [g__law_begin, fnOf_eq, b__law_begin, ap_var, lc1_eq, okW, loose, wipeR, restR, lcE, h, hk, scr]
theorem pickL {ds : List D} (h : DOK ds) {xs : List D} (h0 : 0 < xs.length) (h1 : xs.length ≤ 16000000) : ∃ x ds', DOK ds' ∧ x ∈ xs ∧ g__law_pick [.ow true (.li ds), .pu (.list xs)] = .ret (.pu x) [.ow true (.li ds'), .pu (.list xs)] := by
  obtain ⟨r, ds', hd, hr, hr2, e⟩ := draw h (m := xs.length) (by omega) (by omega)
  have hlt : r.toNat < xs.length := by omega
  refine ⟨xs[r.toNat], ds', hd, List.getElem_mem hlt, ?_⟩
  simp [g__law_pick, fnOf_eq, b__law_pick, ap_var, h1, e, atI_nn hr, hlt]
theorem eqInt (i j : Int) : fEq (.int i) (.int j) = some (.pu (.bool (decide (i = j)))) := by
  unfold fEq
  rw [if_pos ⟨rfl, rfl⟩]
  simp [PyData.eqv, Bool.beq_eq_decide_eq]
theorem rare {ds : List D} (h : DOK ds) {m : Int} (hm : 0 < m) (hm2 : m < 2 ^ 64) : ∃ b ds', DOK ds' ∧ g__law_rare [.ow true (.li ds), .pu (.int m)] = .ret (.pu (.bool b)) [.ow true (.li ds'), .pu (.int m)] := by
  obtain ⟨r, ds', hd, hr, hr2, e⟩ := draw h hm hm2
  have h2 : divOk m 2 = true := divOk_of (by decide) (by decide)
  refine ⟨decide (r = m / 2), ds', hd, ?_⟩
  simp [g__law_rare, fnOf_eq, b__law_rare, ap_var, e, h2, eqInt]

end K09
namespace K09
open PySem Ow
/-! words of bits, plainly -/
def wv : List Int → Int
  | [] => 0
  | b :: r => b + 2 * wv r
theorem wv_range (f : Nat → Int) (w : Nat) : wv ((List.range (w + 1)).map f) = f 0 + 2 * wv ((List.range w).map fun k => f (k + 1)) := by
  rw [List.range_succ_eq_map, List.map_cons, List.map_map]
  rfl
theorem wv_lin (f g : Nat → Int) (c : Int) : ∀ w : Nat, wv ((List.range w).map fun k => f k + c * g k) = wv ((List.range w).map f) + c * wv ((List.range w).map g)
  | 0 => by show (0 : Int) = 0 + c * 0; omega
  | w + 1 => by
    rw [wv_range, wv_range, wv_range]
    have := wv_lin (fun k => f (k + 1)) (fun k => g (k + 1)) c w
    rw [this]
    rw [Int.mul_add, Int.mul_add, ← Int.mul_assoc, ← Int.mul_assoc, Int.mul_comm c 2]
    omega
theorem wv_cat : ∀ (xs ys : List Int), wv (xs ++ ys) = wv xs + 2 ^ xs.length * wv ys
  | [], ys => by show wv ys = 0 + 1 * wv ys; omega
  | x :: xs, ys => by
    show x + 2 * wv (xs ++ ys) = (x + 2 * wv xs) + 2 ^ (xs.length + 1) * wv ys
    rw [wv_cat xs ys, Int.pow_succ, Int.mul_add, Int.mul_comm (2 ^ xs.length) 2, Int.mul_assoc]
    omega
def bt (v : Int) (k : Nat) : Int := v / 2 ^ k % 2
theorem bt0 (v : Int) : bt v 0 = v % 2 := by unfold bt; rw [Int.pow_zero, Int.ediv_one]
theorem btS (v : Int) (k : Nat) : bt v (k + 1) = bt (v / 2) k := by
  unfold bt
  rw [Int.pow_succ, Int.mul_comm, Int.ediv_ediv_of_nonneg (by decide)]
theorem bt01 (v : Int) (k : Nat) : bt v k = 0 ∨ bt v k = 1 := by unfold bt; omega
def In (w : Nat) (v : Int) : Prop := 0 ≤ v ∧ v < 2 ^ w
theorem in_half {w : Nat} {v : Int} (h : In (w + 1) v) : In w (v / 2) := by
  obtain ⟨h1, h2⟩ := h
  rw [Int.pow_succ] at h2
  exact ⟨by omega, by omega⟩
theorem in0 {v : Int} (h : In 0 v) : v = 0 := by
  obtain ⟨h1, h2⟩ := h
  rw [Int.pow_zero] at h2
  omega
theorem wv_bits : ∀ (w : Nat) (v : Int), In w v → wv ((List.range w).map (bt v)) = v
  | 0, v, h => by rw [in0 h]; rfl
  | w + 1, v, h => by
    rw [wv_range, bt0]
    have e : (fun k => bt v (k + 1)) = bt (v / 2) := funext fun k => btS v k
    rw [e, wv_bits w _ (in_half h)]
    omega
theorem wv_and : ∀ (w : Nat) (a b : Int), In w a → In w b → wv ((List.range w).map fun k => if bt b k < bt a k then bt b k else bt a k) = Builtin.bitAnd a b
  | 0, a, b, ha, hb => by rw [in0 ha, in0 hb]; rfl
  | w + 1, a, b, ha, hb => by
    rw [wv_range]
    have e : (fun k => if bt b (k + 1) < bt a (k + 1) then bt b (k + 1) else bt a (k + 1)) = fun k => if bt (b / 2) k < bt (a / 2) k then bt (b / 2) k else bt (a / 2) k := funext fun k => by rw [btS, btS]
    rw [e, wv_and w _ _ (in_half ha) (in_half hb), PySem.W.kbt_halves a b, bt0, bt0]
    split <;> split <;> omega
theorem or_and (x y : Int) : Builtin.bitOr x y = x + y - Builtin.bitAnd x y := by
  have h := PyProof.Rows.bitXor_and x y
  unfold Builtin.bitXor at h
  omega
theorem wv_or (w : Nat) (a b : Int) (ha : In w a) (hb : In w b) : wv ((List.range w).map fun k => if bt b k > bt a k then bt b k else bt a k) = Builtin.bitOr a b := by
  have h1 := wv_lin (fun k => bt a k + 1 * bt b k) (fun k => if bt b k < bt a k then bt b k else bt a k) (-1) w
  rw [wv_lin (bt a) (bt b) 1, wv_bits w a ha, wv_bits w b hb, wv_and w a b ha hb] at h1
  rw [or_and, show a + b - Builtin.bitAnd a b = a + 1 * b + -1 * Builtin.bitAnd a b by omega, ← h1]
  congr 1
  refine List.map_congr_left fun k _ => ?_
  split <;> split <;> omega
theorem wv_xor (w : Nat) (a b : Int) (ha : In w a) (hb : In w b) : wv ((List.range w).map fun k => if bt a k = bt b k then 0 else 1) = Builtin.bitXor a b := by
  have h1 := wv_lin (fun k => bt a k + 1 * bt b k) (fun k => if bt b k < bt a k then bt b k else bt a k) (-2) w
  rw [wv_lin (bt a) (bt b) 1, wv_bits w a ha, wv_bits w b hb, wv_and w a b ha hb] at h1
  rw [PyProof.Rows.bitXor_and, show a + b - 2 * Builtin.bitAnd a b = a + 1 * b + -2 * Builtin.bitAnd a b by omega, ← h1]
  congr 1
  refine List.map_congr_left fun k _ => ?_
  have h1 := bt01 a k
  have h2 := bt01 b k
  split <;> split <;> omega
theorem wv_ones : ∀ w : Nat, wv ((List.range w).map fun _ => 1) = 2 ^ w - 1
  | 0 => rfl
  | w + 1 => by rw [wv_range, wv_ones w, Int.pow_succ]; omega
theorem wv_not (w : Nat) (a : Int) (ha : In w a) : wv ((List.range w).map fun k => 1 - bt a k) = 2 ^ w - 1 - a := by
  have h1 := wv_lin (fun _ => 1) (bt a) (-1) w
  rw [wv_ones, wv_bits w a ha] at h1
  rw [show (2 : Int) ^ w - 1 - a = 2 ^ w - 1 + -1 * a by omega, ← h1]
  congr 1
  refine List.map_congr_left fun k _ => ?_
  omega
/-- a carry that runs up -/
def cy (f g : Nat → Int) (c : Int) : Nat → Int
  | 0 => c
  | k + 1 => (f k + cy f g c k + g k) / 2
theorem wv_sum (f g : Nat → Int) (c : Int) (w : Nat) : wv ((List.range w).map fun k => (f k + cy f g c k + g k) % 2) + 2 ^ w * cy f g c w = wv ((List.range w).map f) + wv ((List.range w).map g) + c := by
  have snoc : ∀ (h : Nat → Int) (w : Nat), wv ((List.range (w + 1)).map h) = wv ((List.range w).map h) + 2 ^ w * h w := fun h w => by
    rw [List.range_succ, List.map_append, wv_cat, List.length_map, List.length_range]
    show _ + 2 ^ w * (h w + 2 * 0) = _
    rw [Int.mul_zero, Int.add_zero]
  induction w with
  | zero => show (0 : Int) + 1 * c = 0 + 0 + c; omega
  | succ w ih =>
    rw [snoc, snoc, snoc]
    have e : cy f g c (w + 1) = (f w + cy f g c w + g w) / 2 := rfl
    rw [e, Int.pow_succ]
    generalize cy f g c w = C at ih ⊢
    have h2 := Int.emod_add_mul_ediv (f w + C + g w) 2
    generalize hq : (f w + C + g w) / 2 = Q at h2 ⊢
    generalize hr : (f w + C + g w) % 2 = R at h2 ⊢
    have h3 : (2 : Int) ^ w * R + 2 ^ w * 2 * Q = 2 ^ w * (f w) + 2 ^ w * C + 2 ^ w * (g w) := by
      rw [Int.mul_assoc, ← Int.mul_add, h2, Int.mul_add, Int.mul_add]
    omega
theorem wv_lt : ∀ (w : Nat) (f : Nat → Int), (∀ k, f k = 0 ∨ f k = 1) → 0 ≤ wv ((List.range w).map f) ∧ wv ((List.range w).map f) < 2 ^ w
  | 0, _, _ => by show (0 : Int) ≤ 0 ∧ (0 : Int) < 1; omega
  | w + 1, f, h => by
    rw [wv_range, Int.pow_succ]
    have := wv_lt w (fun k => f (k + 1)) fun k => h (k + 1)
    have := h 0
    omega
theorem add_is {w : Nat} {a b : Int} (ha : In w a) (hb : In w b) : wv ((List.range w).map fun k => (bt a k + cy (bt a) (bt b) 0 k + bt b k) % 2) = (a + b) % 2 ^ w := by
  have h := wv_sum (bt a) (bt b) 0 w
  rw [wv_bits w a ha, wv_bits w b hb] at h
  have h2 := wv_lt w (fun k => (bt a k + cy (bt a) (bt b) 0 k + bt b k) % 2) fun k => by omega
  have h3 : a + b = wv ((List.range w).map fun k => (bt a k + cy (bt a) (bt b) 0 k + bt b k) % 2) + 2 ^ w * cy (bt a) (bt b) 0 w := by omega
  rw [h3, Int.add_mul_emod_self_left, Int.emod_eq_of_lt h2.1 h2.2]
theorem sub_is {w : Nat} {a b : Int} (ha : In w a) (hb : In w b) : wv ((List.range w).map fun k => (bt a k + cy (bt a) (fun k => 1 - bt b k) 1 k + (1 - bt b k)) % 2) = (a - b) % 2 ^ w := by
  have h := wv_sum (bt a) (fun k => 1 - bt b k) 1 w
  rw [wv_bits w a ha, wv_not w b hb] at h
  have h2 := wv_lt w (fun k => (bt a k + cy (bt a) (fun k => 1 - bt b k) 1 k + (1 - bt b k)) % 2) fun k => by omega
  have h3 : a - b + 2 ^ w * 1 = wv ((List.range w).map fun k => (bt a k + cy (bt a) (fun k => 1 - bt b k) 1 k + (1 - bt b k)) % 2) + 2 ^ w * cy (bt a) (fun k => 1 - bt b k) 1 w := by omega
  have h4 := congrArg (· % (2 : Int) ^ w) h3

  rw [Int.add_mul_emod_self_left, Int.add_mul_emod_self_left, Int.emod_eq_of_lt h2.1 h2.2] at h4
  exact h4.symm
end K09
namespace K09
open PySem Ow
def ni (i : Int) : D := .int i
def bs (w : Nat) (v : Int) : List Int := (List.range w).map (bt v)
theorem bs_len (w : Nat) (v : Int) : (bs w v).length = w := by unfold bs; simp
theorem bits_ok {w : Nat} (hw : w ≤ 100) (v : Int) : g__law_bits [.pu (.int v), .pu (.int w)] = .ret (.pu (.tuple ((bs w v).map ni))) [.pu (.int v), .pu (.int w)] := by
  have h : lcL [2] (gNm 2) oYes (oFrz (oBin fAnd (oPu (oFrz (oBin fShr (oVar 0) (oVar 2)))) (oPu (oC (.int 1))))) (rangeD 0 w) [.pu (.int v), .pu (.int w), .no] = .ok ((bs w v).map ni) [.pu (.int v), .pu (.int w), .no] := by
    rw [rangeD_map]
    unfold bs
    rw [List.map_map]
    refine lcL_map fun k hk => ⟨[.pu (.int v), .pu (.int w), .pu (.int k)], [.pu (.int v), .pu (.int w), .pu (.int k)], by simp [setSl_ok], ?_, rfl⟩
    have e1 : fShr (.int v) (.int (k : Int)) = some (.pu (.int (v / 2 ^ k))) := by
      show (if 0 ≤ (k : Int) then some (Rs.pu (.int (v / 2 ^ ((k : Int)).toNat))) else none) = _
      rw [if_pos (by omega)]
      rfl
    have e2 : ∀ x : Int, fAnd (.int x) (.int 1) = some (.pu (.int (x % 2))) := fun x => by
      show some (Rs.pu (.int (Builtin.bitAnd x 1))) = _
      rw [PyProof.Rows.bitAnd_m1]
    simp [ap_var, e1, e2, ni, bt]
  have h1 := fun ρ => rg1_nat (n := w) (by omega) ρ
  have h2 : (rangeD 0 w).length ≤ 16000000 := by rw [rangeD_map, List.length_map, List.length_range]; omega
  simp [-rg1_eq, g__law_bits, fnOf_eq, b__law_bits, ap_var, h1, lc1_eq, okW, loose, h2, wipeR, restR, lcE, h]
theorem sum_wv : ∀ (l : List Int), ((List.range l.length).map fun k => l.getD k 0 * 2 ^ k).sum = wv l
  | [] => rfl
  | x :: l => by
    rw [List.length_cons, List.range_succ_eq_map, List.map_cons, List.sum_cons, List.map_map]
    have e : ((fun k => (x :: l).getD k 0 * 2 ^ k) ∘ Nat.succ) = fun k => 2 * (l.getD k 0 * 2 ^ k) := funext fun k => by
      show (x :: l).getD (k + 1) 0 * 2 ^ (k + 1) = _
      rw [List.getD_cons_succ, Int.pow_succ, Int.mul_comm ((2 : Int) ^ k) 2, ← Int.mul_assoc, Int.mul_comm (l.getD k 0) 2, Int.mul_assoc]
    rw [e]
    have e2 : ∀ (m : List Nat) (f : Nat → Int), (m.map fun k => 2 * f k).sum = 2 * (m.map f).sum := fun m f => by
      induction m with
      | nil => rfl
      | cons a m ih => rw [List.map_cons, List.sum_cons, List.map_cons, List.sum_cons, ih, Int.mul_add]
    rw [e2, sum_wv l]
    show x * 1 + 2 * wv l = x + 2 * wv l
    rw [Int.mul_one]
theorem word_ok {l : List Int} (hl : l.length ≤ 100) (hb : ∀ x ∈ l, x = 0 ∨ x = 1) {X : D} (hX : X = .tuple (l.map ni) ∨ X = .list (l.map ni)) : g__law_word [.pu X] = .ret (.pu (.int (wv l))) [.pu X] := by
  have hix : ∀ k : Nat, k < l.length → fIx X (.int k) = some (.pu (.int (l.getD k 0))) := fun k hk => by
    have e : L2.atI (l.map ni) (k : Int) = some (.int (l.getD k 0)) := by
      rw [atI_cast, List.getElem?_map, List.getElem?_eq_getElem hk]
      simp [ni, hk]
    rcases hX with rfl | rfl
    · rw [ix_t, e]; rfl
    · rw [ix_l, e]; rfl
  have hlen : fLen X = some l.length := by
    rcases hX with rfl | rfl <;> simp
  have h : lcL [1] (gNm 1) oYes (oFrz (oBin fShl (oPu (oFrz (oBin fIx (oVar 0) (oVar 1)))) (oVar 1))) (rangeD 0 l.length) [.pu X, .no] = .ok (((List.range l.length).map fun k => l.getD k 0 * 2 ^ k).map PyData.int) [.pu X, .no] := by
    rw [rangeD_map, List.map_map]
    refine lcL_map fun k hk => ⟨[.pu X, .pu (.int k)], [.pu X, .pu (.int k)], by simp [setSl_ok], ?_, rfl⟩
    have hk' := List.mem_range.mp hk
    have hx := hb _ (List.getElem_mem hk')
    have hg : l.getD k 0 = l[k] := by simp [hk']
    have e1 : fShl (.int (l.getD k 0)) (.int (k : Int)) = some (.pu (.int (l.getD k 0 * 2 ^ k))) := by
      rw [f_shl, if_pos ⟨by omega, by rw [Int.natAbs_natCast]; omega, by rw [hg]; rcases hx with q | q <;> rw [q] <;> decide⟩]
      rfl
    simp [-List.getD_eq_getElem?_getD, -f_shl, ap_var, hix k hk', e1]
  have h1 := fun ρ => rg1_nat (n := l.length) (by omega) ρ
  have h2 : (rangeD 0 l.length).length ≤ 16000000 := by rw [rangeD_map, List.length_map, List.length_range]; omega
  have h3 : fSum [.list (((List.range l.length).map fun k => l.getD k 0 * 2 ^ k).map PyData.int)] = some (.pu (.int (wv l))) := by
    show (intsOf _).map (fun ns => Rs.pu (.int ns.sum)) = _
    rw [intsOf_map, ← sum_wv]
    rfl
  simp [-rg1_eq, -List.map_map, -List.getD_eq_getElem?_getD, g__law_word, fnOf_eq, b__law_word, ap_var, hlen, h1, lc1_eq, okW, loose, h2, wipeR, restR, lcE, h, h3]
end K09
namespace K09
open PySem Ow
def ascB (a : Str) : Bool := a.cps.toList.all fun c => decide (c < 128)
theorem eqLit {a b : Str} {r : Bool} (h : (ascB a && (ascB b && (decide (a = b) == r))) = true) : fEq (.str a) (.str b) = some (.pu (.bool r)) := by
  rw [Bool.and_eq_true, Bool.and_eq_true] at h
  obtain ⟨h1, h2, h3⟩ := h
  have sh : ∀ x : Str, ascB x = true → SeqAt.shaped (.str x) = true := fun x hx => by
    unfold SeqAt.shaped
    rw [Bool.and_eq_true_iff]
    refine ⟨?_, rfl⟩
    show x.cps.all (· < 0x110000) = true
    rw [Array.all_eq_true']
    intro c hc
    have := List.all_eq_true.mp hx c (by simpa using hc)
    have := of_decide_eq_true this
    exact decide_eq_true (by omega)
  unfold fEq
  rw [if_pos ⟨sh a h1, sh b h2⟩, ← eq_of_beq h3]
  rfl
@[simp] theorem e_and_and : fEq (.str (Str.ofString "and")) (.str (Str.ofString "and")) = some (.pu (.bool true)) := eqLit (by decide +kernel)
@[simp] theorem e_and_or : fEq (.str (Str.ofString "and")) (.str (Str.ofString "or")) = some (.pu (.bool false)) := eqLit (by decide +kernel)
@[simp] theorem e_and_xor : fEq (.str (Str.ofString "and")) (.str (Str.ofString "xor")) = some (.pu (.bool false)) := eqLit (by decide +kernel)
@[simp] theorem e_and_add : fEq (.str (Str.ofString "and")) (.str (Str.ofString "add")) = some (.pu (.bool false)) := eqLit (by decide +kernel)
@[simp] theorem e_and_sub : fEq (.str (Str.ofString "and")) (.str (Str.ofString "sub")) = some (.pu (.bool false)) := eqLit (by decide +kernel)
@[simp] theorem e_and_eq : fEq (.str (Str.ofString "and")) (.str (Str.ofString "eq")) = some (.pu (.bool false)) := eqLit (by decide +kernel)
@[simp] theorem e_and_lt : fEq (.str (Str.ofString "and")) (.str (Str.ofString "lt")) = some (.pu (.bool false)) := eqLit (by decide +kernel)
@[simp] theorem e_and_not : fEq (.str (Str.ofString "and")) (.str (Str.ofString "not")) = some (.pu (.bool false)) := eqLit (by decide +kernel)
@[simp] theorem e_and_any : fEq (.str (Str.ofString "and")) (.str (Str.ofString "any")) = some (.pu (.bool false)) := eqLit (by decide +kernel)
@[simp] theorem e_and_join : fEq (.str (Str.ofString "and")) (.str (Str.ofString "join")) = some (.pu (.bool false)) := eqLit (by decide +kernel)
@[simp] theorem e_and_pick : fEq (.str (Str.ofString "and")) (.str (Str.ofString "pick")) = some (.pu (.bool false)) := eqLit (by decide +kernel)
@[simp] theorem e_and_read : fEq (.str (Str.ofString "and")) (.str (Str.ofString "read")) = some (.pu (.bool false)) := eqLit (by decide +kernel)
@[simp] theorem e_and_first : fEq (.str (Str.ofString "and")) (.str (Str.ofString "first")) = some (.pu (.bool false)) := eqLit (by decide +kernel)
@[simp] theorem e_or_and : fEq (.str (Str.ofString "or")) (.str (Str.ofString "and")) = some (.pu (.bool false)) := eqLit (by decide +kernel)
@[simp] theorem e_or_or : fEq (.str (Str.ofString "or")) (.str (Str.ofString "or")) = some (.pu (.bool true)) := eqLit (by decide +kernel)
@[simp] theorem e_or_xor : fEq (.str (Str.ofString "or")) (.str (Str.ofString "xor")) = some (.pu (.bool false)) := eqLit (by decide +kernel)
@[simp] theorem e_or_add : fEq (.str (Str.ofString "or")) (.str (Str.ofString "add")) = some (.pu (.bool false)) := eqLit (by decide +kernel)
@[simp] theorem e_or_sub : fEq (.str (Str.ofString "or")) (.str (Str.ofString "sub")) = some (.pu (.bool false)) := eqLit (by decide +kernel)
@[simp] theorem e_or_eq : fEq (.str (Str.ofString "or")) (.str (Str.ofString "eq")) = some (.pu (.bool false)) := eqLit (by decide +kernel)
@[simp] theorem e_or_lt : fEq (.str (Str.ofString "or")) (.str (Str.ofString "lt")) = some (.pu (.bool false)) := eqLit (by decide +kernel)
@[simp] theorem e_or_not : fEq (.str (Str.ofString "or")) (.str (Str.ofString "not")) = some (.pu (.bool false)) := eqLit (by decide +kernel)
@[simp] theorem e_or_any : fEq (.str (Str.ofString "or")) (.str (Str.ofString "any")) = some (.pu (.bool false)) := eqLit (by decide +kernel)
@[simp] theorem e_or_join : fEq (.str (Str.ofString "or")) (.str (Str.ofString "join")) = some (.pu (.bool false)) := eqLit (by decide +kernel)
@[simp] theorem e_or_pick : fEq (.str (Str.ofString "or")) (.str (Str.ofString "pick")) = some (.pu (.bool false)) := eqLit (by decide +kernel)
@[simp] theorem e_or_read : fEq (.str (Str.ofString "or")) (.str (Str.ofString "read")) = some (.pu (.bool false)) := eqLit (by decide +kernel)
@[simp] theorem e_or_first : fEq (.str (Str.ofString "or")) (.str (Str.ofString "first")) = some (.pu (.bool false)) := eqLit (by decide +kernel)
@[simp] theorem e_xor_and : fEq (.str (Str.ofString "xor")) (.str (Str.ofString "and")) = some (.pu (.bool false)) := eqLit (by decide +kernel)
@[simp] theorem e_xor_or : fEq (.str (Str.ofString "xor")) (.str (Str.ofString "or")) = some (.pu (.bool false)) := eqLit (by decide +kernel)
@[simp] theorem e_xor_xor : fEq (.str (Str.ofString "xor")) (.str (Str.ofString "xor")) = some (.pu (.bool true)) := eqLit (by decide +kernel)
@[simp] theorem e_xor_add : fEq (.str (Str.ofString "xor")) (.str (Str.ofString "add")) = some (.pu (.bool false)) := eqLit (by decide +kernel)
@[simp] theorem e_xor_sub : fEq (.str (Str.ofString "xor")) (.str (Str.ofString "sub")) = some (.pu (.bool false)) := eqLit (by decide +kernel)
@[simp] theorem e_xor_eq : fEq (.str (Str.ofString "xor")) (.str (Str.ofString "eq")) = some (.pu (.bool false)) := eqLit (by decide +kernel)
@[simp] theorem e_xor_lt : fEq (.str (Str.ofString "xor")) (.str (Str.ofString "lt")) = some (.pu (.bool false)) := eqLit (by decide +kernel)
@[simp] theorem e_xor_not : fEq (.str (Str.ofString "xor")) (.str (Str.ofString "not")) = some (.pu (.bool false)) := eqLit (by decide +kernel)
@[simp] theorem e_xor_any : fEq (.str (Str.ofString "xor")) (.str (Str.ofString "any")) = some (.pu (.bool false)) := eqLit (by decide +kernel)
@[simp] theorem e_xor_join : fEq (.str (Str.ofString "xor")) (.str (Str.ofString "join")) = some (.pu (.bool false)) := eqLit (by decide +kernel)
@[simp] theorem e_xor_pick : fEq (.str (Str.ofString "xor")) (.str (Str.ofString "pick")) = some (.pu (.bool false)) := eqLit (by decide +kernel)
@[simp] theorem e_xor_read : fEq (.str (Str.ofString "xor")) (.str (Str.ofString "read")) = some (.pu (.bool false)) := eqLit (by decide +kernel)
@[simp] theorem e_xor_first : fEq (.str (Str.ofString "xor")) (.str (Str.ofString "first")) = some (.pu (.bool false)) := eqLit (by decide +kernel)
@[simp] theorem e_add_and : fEq (.str (Str.ofString "add")) (.str (Str.ofString "and")) = some (.pu (.bool false)) := eqLit (by decide +kernel)
@[simp] theorem e_add_or : fEq (.str (Str.ofString "add")) (.str (Str.ofString "or")) = some (.pu (.bool false)) := eqLit (by decide +kernel)
@[simp] theorem e_add_xor : fEq (.str (Str.ofString "add")) (.str (Str.ofString "xor")) = some (.pu (.bool false)) := eqLit (by decide +kernel)
@[simp] theorem e_add_add : fEq (.str (Str.ofString "add")) (.str (Str.ofString "add")) = some (.pu (.bool true)) := eqLit (by decide +kernel)
@[simp] theorem e_add_sub : fEq (.str (Str.ofString "add")) (.str (Str.ofString "sub")) = some (.pu (.bool false)) := eqLit (by decide +kernel)
@[simp] theorem e_add_eq : fEq (.str (Str.ofString "add")) (.str (Str.ofString "eq")) = some (.pu (.bool false)) := eqLit (by decide +kernel)
@[simp] theorem e_add_lt : fEq (.str (Str.ofString "add")) (.str (Str.ofString "lt")) = some (.pu (.bool false)) := eqLit (by decide +kernel)
@[simp] theorem e_add_not : fEq (.str (Str.ofString "add")) (.str (Str.ofString "not")) = some (.pu (.bool false)) := eqLit (by decide +kernel)
@[simp] theorem e_add_any : fEq (.str (Str.ofString "add")) (.str (Str.ofString "any")) = some (.pu (.bool false)) := eqLit (by decide +kernel)
@[simp] theorem e_add_join : fEq (.str (Str.ofString "add")) (.str (Str.ofString "join")) = some (.pu (.bool false)) := eqLit (by decide +kernel)
@[simp] theorem e_add_pick : fEq (.str (Str.ofString "add")) (.str (Str.ofString "pick")) = some (.pu (.bool false)) := eqLit (by decide +kernel)
@[simp] theorem e_add_read : fEq (.str (Str.ofString "add")) (.str (Str.ofString "read")) = some (.pu (.bool false)) := eqLit (by decide +kernel)
@[simp] theorem e_add_first : fEq (.str (Str.ofString "add")) (.str (Str.ofString "first")) = some (.pu (.bool false)) := eqLit (by decide +kernel)
@[simp] theorem e_sub_and : fEq (.str (Str.ofString "sub")) (.str (Str.ofString "and")) = some (.pu (.bool false)) := eqLit (by decide +kernel)
@[simp] theorem e_sub_or : fEq (.str (Str.ofString "sub")) (.str (Str.ofString "or")) = some (.pu (.bool false)) := eqLit (by decide +kernel)
@[simp] theorem e_sub_xor : fEq (.str (Str.ofString "sub")) (.str (Str.ofString "xor")) = some (.pu (.bool false)) := eqLit (by decide +kernel)
@[simp] theorem e_sub_add : fEq (.str (Str.ofString "sub")) (.str (Str.ofString "add")) = some (.pu (.bool false)) := eqLit (by decide +kernel)
@[simp] theorem e_sub_sub : fEq (.str (Str.ofString "sub")) (.str (Str.ofString "sub")) = some (.pu (.bool true)) := eqLit (by decide +kernel)
@[simp] theorem e_sub_eq : fEq (.str (Str.ofString "sub")) (.str (Str.ofString "eq")) = some (.pu (.bool false)) := eqLit (by decide +kernel)
@[simp] theorem e_sub_lt : fEq (.str (Str.ofString "sub")) (.str (Str.ofString "lt")) = some (.pu (.bool false)) := eqLit (by decide +kernel)
@[simp] theorem e_sub_not : fEq (.str (Str.ofString "sub")) (.str (Str.ofString "not")) = some (.pu (.bool false)) := eqLit (by decide +kernel)
@[simp] theorem e_sub_any : fEq (.str (Str.ofString "sub")) (.str (Str.ofString "any")) = some (.pu (.bool false)) := eqLit (by decide +kernel)
@[simp] theorem e_sub_join : fEq (.str (Str.ofString "sub")) (.str (Str.ofString "join")) = some (.pu (.bool false)) := eqLit (by decide +kernel)
@[simp] theorem e_sub_pick : fEq (.str (Str.ofString "sub")) (.str (Str.ofString "pick")) = some (.pu (.bool false)) := eqLit (by decide +kernel)
@[simp] theorem e_sub_read : fEq (.str (Str.ofString "sub")) (.str (Str.ofString "read")) = some (.pu (.bool false)) := eqLit (by decide +kernel)
@[simp] theorem e_sub_first : fEq (.str (Str.ofString "sub")) (.str (Str.ofString "first")) = some (.pu (.bool false)) := eqLit (by decide +kernel)
@[simp] theorem e_eq_and : fEq (.str (Str.ofString "eq")) (.str (Str.ofString "and")) = some (.pu (.bool false)) := eqLit (by decide +kernel)
@[simp] theorem e_eq_or : fEq (.str (Str.ofString "eq")) (.str (Str.ofString "or")) = some (.pu (.bool false)) := eqLit (by decide +kernel)
@[simp] theorem e_eq_xor : fEq (.str (Str.ofString "eq")) (.str (Str.ofString "xor")) = some (.pu (.bool false)) := eqLit (by decide +kernel)
@[simp] theorem e_eq_add : fEq (.str (Str.ofString "eq")) (.str (Str.ofString "add")) = some (.pu (.bool false)) := eqLit (by decide +kernel)
@[simp] theorem e_eq_sub : fEq (.str (Str.ofString "eq")) (.str (Str.ofString "sub")) = some (.pu (.bool false)) := eqLit (by decide +kernel)
@[simp] theorem e_eq_eq : fEq (.str (Str.ofString "eq")) (.str (Str.ofString "eq")) = some (.pu (.bool true)) := eqLit (by decide +kernel)
@[simp] theorem e_eq_lt : fEq (.str (Str.ofString "eq")) (.str (Str.ofString "lt")) = some (.pu (.bool false)) := eqLit (by decide +kernel)
@[simp] theorem e_eq_not : fEq (.str (Str.ofString "eq")) (.str (Str.ofString "not")) = some (.pu (.bool false)) := eqLit (by decide +kernel)
@[simp] theorem e_eq_any : fEq (.str (Str.ofString "eq")) (.str (Str.ofString "any")) = some (.pu (.bool false)) := eqLit (by decide +kernel)
@[simp] theorem e_eq_join : fEq (.str (Str.ofString "eq")) (.str (Str.ofString "join")) = some (.pu (.bool false)) := eqLit (by decide +kernel)
@[simp] theorem e_eq_pick : fEq (.str (Str.ofString "eq")) (.str (Str.ofString "pick")) = some (.pu (.bool false)) := eqLit (by decide +kernel)
@[simp] theorem e_eq_read : fEq (.str (Str.ofString "eq")) (.str (Str.ofString "read")) = some (.pu (.bool false)) := eqLit (by decide +kernel)
@[simp] theorem e_eq_first : fEq (.str (Str.ofString "eq")) (.str (Str.ofString "first")) = some (.pu (.bool false)) := eqLit (by decide +kernel)
@[simp] theorem e_lt_and : fEq (.str (Str.ofString "lt")) (.str (Str.ofString "and")) = some (.pu (.bool false)) := eqLit (by decide +kernel)
@[simp] theorem e_lt_or : fEq (.str (Str.ofString "lt")) (.str (Str.ofString "or")) = some (.pu (.bool false)) := eqLit (by decide +kernel)
@[simp] theorem e_lt_xor : fEq (.str (Str.ofString "lt")) (.str (Str.ofString "xor")) = some (.pu (.bool false)) := eqLit (by decide +kernel)
@[simp] theorem e_lt_add : fEq (.str (Str.ofString "lt")) (.str (Str.ofString "add")) = some (.pu (.bool false)) := eqLit (by decide +kernel)
@[simp] theorem e_lt_sub : fEq (.str (Str.ofString "lt")) (.str (Str.ofString "sub")) = some (.pu (.bool false)) := eqLit (by decide +kernel)
@[simp] theorem e_lt_eq : fEq (.str (Str.ofString "lt")) (.str (Str.ofString "eq")) = some (.pu (.bool false)) := eqLit (by decide +kernel)
@[simp] theorem e_lt_lt : fEq (.str (Str.ofString "lt")) (.str (Str.ofString "lt")) = some (.pu (.bool true)) := eqLit (by decide +kernel)
@[simp] theorem e_lt_not : fEq (.str (Str.ofString "lt")) (.str (Str.ofString "not")) = some (.pu (.bool false)) := eqLit (by decide +kernel)
@[simp] theorem e_lt_any : fEq (.str (Str.ofString "lt")) (.str (Str.ofString "any")) = some (.pu (.bool false)) := eqLit (by decide +kernel)
@[simp] theorem e_lt_join : fEq (.str (Str.ofString "lt")) (.str (Str.ofString "join")) = some (.pu (.bool false)) := eqLit (by decide +kernel)
@[simp] theorem e_lt_pick : fEq (.str (Str.ofString "lt")) (.str (Str.ofString "pick")) = some (.pu (.bool false)) := eqLit (by decide +kernel)
@[simp] theorem e_lt_read : fEq (.str (Str.ofString "lt")) (.str (Str.ofString "read")) = some (.pu (.bool false)) := eqLit (by decide +kernel)
@[simp] theorem e_lt_first : fEq (.str (Str.ofString "lt")) (.str (Str.ofString "first")) = some (.pu (.bool false)) := eqLit (by decide +kernel)
@[simp] theorem e_not_and : fEq (.str (Str.ofString "not")) (.str (Str.ofString "and")) = some (.pu (.bool false)) := eqLit (by decide +kernel)
@[simp] theorem e_not_or : fEq (.str (Str.ofString "not")) (.str (Str.ofString "or")) = some (.pu (.bool false)) := eqLit (by decide +kernel)
@[simp] theorem e_not_xor : fEq (.str (Str.ofString "not")) (.str (Str.ofString "xor")) = some (.pu (.bool false)) := eqLit (by decide +kernel)
@[simp] theorem e_not_add : fEq (.str (Str.ofString "not")) (.str (Str.ofString "add")) = some (.pu (.bool false)) := eqLit (by decide +kernel)
@[simp] theorem e_not_sub : fEq (.str (Str.ofString "not")) (.str (Str.ofString "sub")) = some (.pu (.bool false)) := eqLit (by decide +kernel)
@[simp] theorem e_not_eq : fEq (.str (Str.ofString "not")) (.str (Str.ofString "eq")) = some (.pu (.bool false)) := eqLit (by decide +kernel)
@[simp] theorem e_not_lt : fEq (.str (Str.ofString "not")) (.str (Str.ofString "lt")) = some (.pu (.bool false)) := eqLit (by decide +kernel)
@[simp] theorem e_not_not : fEq (.str (Str.ofString "not")) (.str (Str.ofString "not")) = some (.pu (.bool true)) := eqLit (by decide +kernel)
@[simp] theorem e_not_any : fEq (.str (Str.ofString "not")) (.str (Str.ofString "any")) = some (.pu (.bool false)) := eqLit (by decide +kernel)
@[simp] theorem e_not_join : fEq (.str (Str.ofString "not")) (.str (Str.ofString "join")) = some (.pu (.bool false)) := eqLit (by decide +kernel)
@[simp] theorem e_not_pick : fEq (.str (Str.ofString "not")) (.str (Str.ofString "pick")) = some (.pu (.bool false)) := eqLit (by decide +kernel)
@[simp] theorem e_not_read : fEq (.str (Str.ofString "not")) (.str (Str.ofString "read")) = some (.pu (.bool false)) := eqLit (by decide +kernel)
@[simp] theorem e_not_first : fEq (.str (Str.ofString "not")) (.str (Str.ofString "first")) = some (.pu (.bool false)) := eqLit (by decide +kernel)
@[simp] theorem e_any_and : fEq (.str (Str.ofString "any")) (.str (Str.ofString "and")) = some (.pu (.bool false)) := eqLit (by decide +kernel)
@[simp] theorem e_any_or : fEq (.str (Str.ofString "any")) (.str (Str.ofString "or")) = some (.pu (.bool false)) := eqLit (by decide +kernel)
@[simp] theorem e_any_xor : fEq (.str (Str.ofString "any")) (.str (Str.ofString "xor")) = some (.pu (.bool false)) := eqLit (by decide +kernel)
@[simp] theorem e_any_add : fEq (.str (Str.ofString "any")) (.str (Str.ofString "add")) = some (.pu (.bool false)) := eqLit (by decide +kernel)
@[simp] theorem e_any_sub : fEq (.str (Str.ofString "any")) (.str (Str.ofString "sub")) = some (.pu (.bool false)) := eqLit (by decide +kernel)
@[simp] theorem e_any_eq : fEq (.str (Str.ofString "any")) (.str (Str.ofString "eq")) = some (.pu (.bool false)) := eqLit (by decide +kernel)
@[simp] theorem e_any_lt : fEq (.str (Str.ofString "any")) (.str (Str.ofString "lt")) = some (.pu (.bool false)) := eqLit (by decide +kernel)
@[simp] theorem e_any_not : fEq (.str (Str.ofString "any")) (.str (Str.ofString "not")) = some (.pu (.bool false)) := eqLit (by decide +kernel)
@[simp] theorem e_any_any : fEq (.str (Str.ofString "any")) (.str (Str.ofString "any")) = some (.pu (.bool true)) := eqLit (by decide +kernel)
@[simp] theorem e_any_join : fEq (.str (Str.ofString "any")) (.str (Str.ofString "join")) = some (.pu (.bool false)) := eqLit (by decide +kernel)
@[simp] theorem e_any_pick : fEq (.str (Str.ofString "any")) (.str (Str.ofString "pick")) = some (.pu (.bool false)) := eqLit (by decide +kernel)
@[simp] theorem e_any_read : fEq (.str (Str.ofString "any")) (.str (Str.ofString "read")) = some (.pu (.bool false)) := eqLit (by decide +kernel)
@[simp] theorem e_any_first : fEq (.str (Str.ofString "any")) (.str (Str.ofString "first")) = some (.pu (.bool false)) := eqLit (by decide +kernel)
@[simp] theorem e_join_and : fEq (.str (Str.ofString "join")) (.str (Str.ofString "and")) = some (.pu (.bool false)) := eqLit (by decide +kernel)
@[simp] theorem e_join_or : fEq (.str (Str.ofString "join")) (.str (Str.ofString "or")) = some (.pu (.bool false)) := eqLit (by decide +kernel)
@[simp] theorem e_join_xor : fEq (.str (Str.ofString "join")) (.str (Str.ofString "xor")) = some (.pu (.bool false)) := eqLit (by decide +kernel)
@[simp] theorem e_join_add : fEq (.str (Str.ofString "join")) (.str (Str.ofString "add")) = some (.pu (.bool false)) := eqLit (by decide +kernel)
@[simp] theorem e_join_sub : fEq (.str (Str.ofString "join")) (.str (Str.ofString "sub")) = some (.pu (.bool false)) := eqLit (by decide +kernel)
@[simp] theorem e_join_eq : fEq (.str (Str.ofString "join")) (.str (Str.ofString "eq")) = some (.pu (.bool false)) := eqLit (by decide +kernel)
@[simp] theorem e_join_lt : fEq (.str (Str.ofString "join")) (.str (Str.ofString "lt")) = some (.pu (.bool false)) := eqLit (by decide +kernel)
@[simp] theorem e_join_not : fEq (.str (Str.ofString "join")) (.str (Str.ofString "not")) = some (.pu (.bool false)) := eqLit (by decide +kernel)
@[simp] theorem e_join_any : fEq (.str (Str.ofString "join")) (.str (Str.ofString "any")) = some (.pu (.bool false)) := eqLit (by decide +kernel)
@[simp] theorem e_join_join : fEq (.str (Str.ofString "join")) (.str (Str.ofString "join")) = some (.pu (.bool true)) := eqLit (by decide +kernel)
@[simp] theorem e_join_pick : fEq (.str (Str.ofString "join")) (.str (Str.ofString "pick")) = some (.pu (.bool false)) := eqLit (by decide +kernel)
@[simp] theorem e_join_read : fEq (.str (Str.ofString "join")) (.str (Str.ofString "read")) = some (.pu (.bool false)) := eqLit (by decide +kernel)
@[simp] theorem e_join_first : fEq (.str (Str.ofString "join")) (.str (Str.ofString "first")) = some (.pu (.bool false)) := eqLit (by decide +kernel)
@[simp] theorem e_pick_and : fEq (.str (Str.ofString "pick")) (.str (Str.ofString "and")) = some (.pu (.bool false)) := eqLit (by decide +kernel)
@[simp] theorem e_pick_or : fEq (.str (Str.ofString "pick")) (.str (Str.ofString "or")) = some (.pu (.bool false)) := eqLit (by decide +kernel)
@[simp] theorem e_pick_xor : fEq (.str (Str.ofString "pick")) (.str (Str.ofString "xor")) = some (.pu (.bool false)) := eqLit (by decide +kernel)
@[simp] theorem e_pick_add : fEq (.str (Str.ofString "pick")) (.str (Str.ofString "add")) = some (.pu (.bool false)) := eqLit (by decide +kernel)
@[simp] theorem e_pick_sub : fEq (.str (Str.ofString "pick")) (.str (Str.ofString "sub")) = some (.pu (.bool false)) := eqLit (by decide +kernel)
@[simp] theorem e_pick_eq : fEq (.str (Str.ofString "pick")) (.str (Str.ofString "eq")) = some (.pu (.bool false)) := eqLit (by decide +kernel)
@[simp] theorem e_pick_lt : fEq (.str (Str.ofString "pick")) (.str (Str.ofString "lt")) = some (.pu (.bool false)) := eqLit (by decide +kernel)
@[simp] theorem e_pick_not : fEq (.str (Str.ofString "pick")) (.str (Str.ofString "not")) = some (.pu (.bool false)) := eqLit (by decide +kernel)
@[simp] theorem e_pick_any : fEq (.str (Str.ofString "pick")) (.str (Str.ofString "any")) = some (.pu (.bool false)) := eqLit (by decide +kernel)
@[simp] theorem e_pick_join : fEq (.str (Str.ofString "pick")) (.str (Str.ofString "join")) = some (.pu (.bool false)) := eqLit (by decide +kernel)
@[simp] theorem e_pick_pick : fEq (.str (Str.ofString "pick")) (.str (Str.ofString "pick")) = some (.pu (.bool true)) := eqLit (by decide +kernel)
@[simp] theorem e_pick_read : fEq (.str (Str.ofString "pick")) (.str (Str.ofString "read")) = some (.pu (.bool false)) := eqLit (by decide +kernel)
@[simp] theorem e_pick_first : fEq (.str (Str.ofString "pick")) (.str (Str.ofString "first")) = some (.pu (.bool false)) := eqLit (by decide +kernel)
@[simp] theorem e_read_and : fEq (.str (Str.ofString "read")) (.str (Str.ofString "and")) = some (.pu (.bool false)) := eqLit (by decide +kernel)
@[simp] theorem e_read_or : fEq (.str (Str.ofString "read")) (.str (Str.ofString "or")) = some (.pu (.bool false)) := eqLit (by decide +kernel)
@[simp] theorem e_read_xor : fEq (.str (Str.ofString "read")) (.str (Str.ofString "xor")) = some (.pu (.bool false)) := eqLit (by decide +kernel)
@[simp] theorem e_read_add : fEq (.str (Str.ofString "read")) (.str (Str.ofString "add")) = some (.pu (.bool false)) := eqLit (by decide +kernel)
@[simp] theorem e_read_sub : fEq (.str (Str.ofString "read")) (.str (Str.ofString "sub")) = some (.pu (.bool false)) := eqLit (by decide +kernel)
@[simp] theorem e_read_eq : fEq (.str (Str.ofString "read")) (.str (Str.ofString "eq")) = some (.pu (.bool false)) := eqLit (by decide +kernel)
@[simp] theorem e_read_lt : fEq (.str (Str.ofString "read")) (.str (Str.ofString "lt")) = some (.pu (.bool false)) := eqLit (by decide +kernel)
@[simp] theorem e_read_not : fEq (.str (Str.ofString "read")) (.str (Str.ofString "not")) = some (.pu (.bool false)) := eqLit (by decide +kernel)
@[simp] theorem e_read_any : fEq (.str (Str.ofString "read")) (.str (Str.ofString "any")) = some (.pu (.bool false)) := eqLit (by decide +kernel)
@[simp] theorem e_read_join : fEq (.str (Str.ofString "read")) (.str (Str.ofString "join")) = some (.pu (.bool false)) := eqLit (by decide +kernel)
@[simp] theorem e_read_pick : fEq (.str (Str.ofString "read")) (.str (Str.ofString "pick")) = some (.pu (.bool false)) := eqLit (by decide +kernel)
@[simp] theorem e_read_read : fEq (.str (Str.ofString "read")) (.str (Str.ofString "read")) = some (.pu (.bool true)) := eqLit (by decide +kernel)
@[simp] theorem e_read_first : fEq (.str (Str.ofString "read")) (.str (Str.ofString "first")) = some (.pu (.bool false)) := eqLit (by decide +kernel)
@[simp] theorem e_first_and : fEq (.str (Str.ofString "first")) (.str (Str.ofString "and")) = some (.pu (.bool false)) := eqLit (by decide +kernel)
@[simp] theorem e_first_or : fEq (.str (Str.ofString "first")) (.str (Str.ofString "or")) = some (.pu (.bool false)) := eqLit (by decide +kernel)
@[simp] theorem e_first_xor : fEq (.str (Str.ofString "first")) (.str (Str.ofString "xor")) = some (.pu (.bool false)) := eqLit (by decide +kernel)
@[simp] theorem e_first_add : fEq (.str (Str.ofString "first")) (.str (Str.ofString "add")) = some (.pu (.bool false)) := eqLit (by decide +kernel)
@[simp] theorem e_first_sub : fEq (.str (Str.ofString "first")) (.str (Str.ofString "sub")) = some (.pu (.bool false)) := eqLit (by decide +kernel)
@[simp] theorem e_first_eq : fEq (.str (Str.ofString "first")) (.str (Str.ofString "eq")) = some (.pu (.bool false)) := eqLit (by decide +kernel)
@[simp] theorem e_first_lt : fEq (.str (Str.ofString "first")) (.str (Str.ofString "lt")) = some (.pu (.bool false)) := eqLit (by decide +kernel)
@[simp] theorem e_first_not : fEq (.str (Str.ofString "first")) (.str (Str.ofString "not")) = some (.pu (.bool false)) := eqLit (by decide +kernel)
@[simp] theorem e_first_any : fEq (.str (Str.ofString "first")) (.str (Str.ofString "any")) = some (.pu (.bool false)) := eqLit (by decide +kernel)
@[simp] theorem e_first_join : fEq (.str (Str.ofString "first")) (.str (Str.ofString "join")) = some (.pu (.bool false)) := eqLit (by decide +kernel)
@[simp] theorem e_first_pick : fEq (.str (Str.ofString "first")) (.str (Str.ofString "pick")) = some (.pu (.bool false)) := eqLit (by decide +kernel)
@[simp] theorem e_first_read : fEq (.str (Str.ofString "first")) (.str (Str.ofString "read")) = some (.pu (.bool false)) := eqLit (by decide +kernel)
@[simp] theorem e_first_first : fEq (.str (Str.ofString "first")) (.str (Str.ofString "first")) = some (.pu (.bool true)) := eqLit (by decide +kernel)
section
variable {w : Nat} {a b : Int}
theorem whole_ok {w : Nat} (hw : w ≤ 60) : fShl (.int 1) (.int (w : Int)) = some (.pu (.int (2 ^ w))) := by
  rw [f_shl, if_pos ⟨by omega, by rw [Int.natAbs_natCast]; omega, by decide⟩, Int.one_mul]
  rfl
theorem f_and (i j : Int) : fAnd (.int i) (.int j) = some (.pu (.int (Builtin.bitAnd i j))) := rfl
theorem f_or (i j : Int) : fOr (.int i) (.int j) = some (.pu (.int (Builtin.bitOr i j))) := rfl
theorem f_xor (i j : Int) : fXor (.int i) (.int j) = some (.pu (.int (Builtin.bitXor i j))) := rfl
theorem eqInt' (i j : Int) : fEq (.int i) (.int j) = some (.pu (.bool (decide (i = j)))) := eqInt i j
theorem p_not (hw : w ≤ 60) {X : D} (h0 : fIx X (.int 0) = some (.pu (.int a))) : g_plain_value [.pu (.str "not"), .pu X, .pu (.int w)] = .ret (.pu (.int (2 ^ w - 1 - a))) [.pu (.str "not"), .pu X, .pu (.int w)] := by
  simp [-f_shl, g_plain_value, fnOf_eq, b_plain_value, ap_var, setSl_ok, whole_ok hw, h0]
theorem w_not (hw : w ≤ 60) {X Y : D} (h0 : fIx X (.int 0) = some (.pu (.int a))) (hX : ∀ ρ, keep1 (.pu X) ρ = .ok X ρ := by intro _; rfl) : g_word_value [.pu (.str "not"), .pu X, .pu Y, .pu (.int w)] = .ret (.pu (.int (2 ^ w - 1 - a))) [.pu (.str "not"), .pu X, .pu Y, .pu (.int w)] := by
  simp [g_word_value, fnOf_eq, b_word_value, ap_var, setSl_ok, p_not hw h0]
theorem p_any (hw : w ≤ 60) {X : D} (h0 : fIx X (.int 0) = some (.pu (.int a))) : g_plain_value [.pu (.str "any"), .pu X, .pu (.int w)] = .ret (.pu (.int (if 0 < a then 1 else 0))) [.pu (.str "any"), .pu X, .pu (.int w)] := by
  by_cases h : 0 < a <;> simp [-f_shl, g_plain_value, fnOf_eq, b_plain_value, ap_var, setSl_ok, whole_ok hw, h0, h]
theorem w_any (hw : w ≤ 60) {X Y : D} (h0 : fIx X (.int 0) = some (.pu (.int a))) (hX : ∀ ρ, keep1 (.pu X) ρ = .ok X ρ := by intro _; rfl) : g_word_value [.pu (.str "any"), .pu X, .pu Y, .pu (.int w)] = .ret (.pu (.int (if 0 < a then 1 else 0))) [.pu (.str "any"), .pu X, .pu Y, .pu (.int w)] := by
  simp [g_word_value, fnOf_eq, b_word_value, ap_var, setSl_ok, p_any hw h0]
theorem p_and (hw : w ≤ 60) {X : D} (h0 : fIx X (.int 0) = some (.pu (.int a))) (h1 : fIx X (.int 1) = some (.pu (.int b))) : g_plain_value [.pu (.str "and"), .pu X, .pu (.int w)] = .ret (.pu (.int (Builtin.bitAnd a b))) [.pu (.str "and"), .pu X, .pu (.int w)] := by
  simp [-f_shl, g_plain_value, fnOf_eq, b_plain_value, ap_var, setSl_ok, whole_ok hw, h0, h1, f_and]
theorem w_and (hw : w ≤ 60) {X Y : D} (h0 : fIx X (.int 0) = some (.pu (.int a))) (h1 : fIx X (.int 1) = some (.pu (.int b))) (hX : ∀ ρ, keep1 (.pu X) ρ = .ok X ρ := by intro _; rfl) : g_word_value [.pu (.str "and"), .pu X, .pu Y, .pu (.int w)] = .ret (.pu (.int (Builtin.bitAnd a b))) [.pu (.str "and"), .pu X, .pu Y, .pu (.int w)] := by
  simp [g_word_value, fnOf_eq, b_word_value, ap_var, setSl_ok, p_and hw h0 h1]
theorem p_or (hw : w ≤ 60) {X : D} (h0 : fIx X (.int 0) = some (.pu (.int a))) (h1 : fIx X (.int 1) = some (.pu (.int b))) : g_plain_value [.pu (.str "or"), .pu X, .pu (.int w)] = .ret (.pu (.int (Builtin.bitOr a b))) [.pu (.str "or"), .pu X, .pu (.int w)] := by
  simp [-f_shl, g_plain_value, fnOf_eq, b_plain_value, ap_var, setSl_ok, whole_ok hw, h0, h1, f_or]
theorem w_or (hw : w ≤ 60) {X Y : D} (h0 : fIx X (.int 0) = some (.pu (.int a))) (h1 : fIx X (.int 1) = some (.pu (.int b))) (hX : ∀ ρ, keep1 (.pu X) ρ = .ok X ρ := by intro _; rfl) : g_word_value [.pu (.str "or"), .pu X, .pu Y, .pu (.int w)] = .ret (.pu (.int (Builtin.bitOr a b))) [.pu (.str "or"), .pu X, .pu Y, .pu (.int w)] := by
  simp [g_word_value, fnOf_eq, b_word_value, ap_var, setSl_ok, p_or hw h0 h1]
theorem p_xor (hw : w ≤ 60) {X : D} (h0 : fIx X (.int 0) = some (.pu (.int a))) (h1 : fIx X (.int 1) = some (.pu (.int b))) : g_plain_value [.pu (.str "xor"), .pu X, .pu (.int w)] = .ret (.pu (.int (Builtin.bitXor a b))) [.pu (.str "xor"), .pu X, .pu (.int w)] := by
  simp [-f_shl, g_plain_value, fnOf_eq, b_plain_value, ap_var, setSl_ok, whole_ok hw, h0, h1, f_xor]
theorem w_xor (hw : w ≤ 60) {X Y : D} (h0 : fIx X (.int 0) = some (.pu (.int a))) (h1 : fIx X (.int 1) = some (.pu (.int b))) (hX : ∀ ρ, keep1 (.pu X) ρ = .ok X ρ := by intro _; rfl) : g_word_value [.pu (.str "xor"), .pu X, .pu Y, .pu (.int w)] = .ret (.pu (.int (Builtin.bitXor a b))) [.pu (.str "xor"), .pu X, .pu Y, .pu (.int w)] := by
  simp [g_word_value, fnOf_eq, b_word_value, ap_var, setSl_ok, p_xor hw h0 h1]
theorem p_add (hw : w ≤ 60) {X : D} (h0 : fIx X (.int 0) = some (.pu (.int a))) (h1 : fIx X (.int 1) = some (.pu (.int b))) : g_plain_value [.pu (.str "add"), .pu X, .pu (.int w)] = .ret (.pu (.int ((a + b) % 2 ^ w))) [.pu (.str "add"), .pu X, .pu (.int w)] := by
  simp [-f_shl, g_plain_value, fnOf_eq, b_plain_value, ap_var, setSl_ok, whole_ok hw, h0, h1, f_and, PySem.W.kbt_mask]
theorem w_add (hw : w ≤ 60) {X Y : D} (h0 : fIx X (.int 0) = some (.pu (.int a))) (h1 : fIx X (.int 1) = some (.pu (.int b))) (hX : ∀ ρ, keep1 (.pu X) ρ = .ok X ρ := by intro _; rfl) : g_word_value [.pu (.str "add"), .pu X, .pu Y, .pu (.int w)] = .ret (.pu (.int ((a + b) % 2 ^ w))) [.pu (.str "add"), .pu X, .pu Y, .pu (.int w)] := by
  simp [g_word_value, fnOf_eq, b_word_value, ap_var, setSl_ok, p_add hw h0 h1]
theorem p_sub (hw : w ≤ 60) {X : D} (h0 : fIx X (.int 0) = some (.pu (.int a))) (h1 : fIx X (.int 1) = some (.pu (.int b))) : g_plain_value [.pu (.str "sub"), .pu X, .pu (.int w)] = .ret (.pu (.int ((a - b) % 2 ^ w))) [.pu (.str "sub"), .pu X, .pu (.int w)] := by
  simp [-f_shl, g_plain_value, fnOf_eq, b_plain_value, ap_var, setSl_ok, whole_ok hw, h0, h1, f_and, PySem.W.kbt_mask]
theorem w_sub (hw : w ≤ 60) {X Y : D} (h0 : fIx X (.int 0) = some (.pu (.int a))) (h1 : fIx X (.int 1) = some (.pu (.int b))) (hX : ∀ ρ, keep1 (.pu X) ρ = .ok X ρ := by intro _; rfl) : g_word_value [.pu (.str "sub"), .pu X, .pu Y, .pu (.int w)] = .ret (.pu (.int ((a - b) % 2 ^ w))) [.pu (.str "sub"), .pu X, .pu Y, .pu (.int w)] := by
  simp [g_word_value, fnOf_eq, b_word_value, ap_var, setSl_ok, p_sub hw h0 h1]
theorem p_eq (hw : w ≤ 60) {X : D} (h0 : fIx X (.int 0) = some (.pu (.int a))) (h1 : fIx X (.int 1) = some (.pu (.int b))) : g_plain_value [.pu (.str "eq"), .pu X, .pu (.int w)] = .ret (.pu (.int (if a = b then 1 else 0))) [.pu (.str "eq"), .pu X, .pu (.int w)] := by
  by_cases h : a = b <;> simp [-f_shl, g_plain_value, fnOf_eq, b_plain_value, ap_var, setSl_ok, whole_ok hw, h0, h1, eqInt, h]
theorem w_eq (hw : w ≤ 60) {X Y : D} (h0 : fIx X (.int 0) = some (.pu (.int a))) (h1 : fIx X (.int 1) = some (.pu (.int b))) (hX : ∀ ρ, keep1 (.pu X) ρ = .ok X ρ := by intro _; rfl) : g_word_value [.pu (.str "eq"), .pu X, .pu Y, .pu (.int w)] = .ret (.pu (.int (if a = b then 1 else 0))) [.pu (.str "eq"), .pu X, .pu Y, .pu (.int w)] := by
  simp [g_word_value, fnOf_eq, b_word_value, ap_var, setSl_ok, p_eq hw h0 h1]
theorem p_lt (hw : w ≤ 60) {X : D} (h0 : fIx X (.int 0) = some (.pu (.int a))) (h1 : fIx X (.int 1) = some (.pu (.int b))) : g_plain_value [.pu (.str "lt"), .pu X, .pu (.int w)] = .ret (.pu (.int (if a < b then 1 else 0))) [.pu (.str "lt"), .pu X, .pu (.int w)] := by
  by_cases h : a < b <;> simp [-f_shl, g_plain_value, fnOf_eq, b_plain_value, ap_var, setSl_ok, whole_ok hw, h0, h1, h]
theorem w_lt (hw : w ≤ 60) {X Y : D} (h0 : fIx X (.int 0) = some (.pu (.int a))) (h1 : fIx X (.int 1) = some (.pu (.int b))) (hX : ∀ ρ, keep1 (.pu X) ρ = .ok X ρ := by intro _; rfl) : g_word_value [.pu (.str "lt"), .pu X, .pu Y, .pu (.int w)] = .ret (.pu (.int (if a < b then 1 else 0))) [.pu (.str "lt"), .pu X, .pu Y, .pu (.int w)] := by
  simp [g_word_value, fnOf_eq, b_word_value, ap_var, setSl_ok, p_lt hw h0 h1]
end
end K09
namespace K09
open PySem Ow
theorem ixb {w k : Nat} (hk : k < w) (v : Int) : fIx (.tuple ((bs w v).map ni)) (.int (k : Int)) = some (.pu (.int (bt v k))) := by
  rw [ix_t, atI_cast]
  unfold bs
  simp [hk, ni]
theorem map_ni (l : List Nat) (f : Nat → Int) : (l.map f).map ni = l.map fun k => .int (f k) := by
  rw [List.map_map]
  rfl
theorem word_r {w : Nat} (hw : w ≤ 60) {f : Nat → Int} (hf : ∀ k, f k = 0 ∨ f k = 1) : g__law_word [.pu (.list ((List.range w).map fun k => .int (f k)))] = .ret (.pu (.int (wv ((List.range w).map f)))) [.pu (.list ((List.range w).map fun k => .int (f k)))] := by
  have h := word_ok (l := (List.range w).map f) (by simp; omega) (fun x hx => by obtain ⟨k, _, rfl⟩ := List.mem_map.mp hx; exact hf k) (X := .list ((List.range w).map fun k => .int (f k))) (.inr (by rw [map_ni]))
  exact h
section
variable {w : Nat} {a b : Int}
theorem comp2 (hw : w ≤ 60) {op : Str} {oe : O D} {f : Nat → Int} (he : ∀ k, k < w → oe [.pu (.str op), .pu (.int a), .pu (.int b), .pu (.int w), .pu (.tuple ((bs w a).map ni)), .pu (.tuple ((bs w b).map ni)), .no, .no, .pu (.int (k : Int)), .no, .no] = .ok (.int (f k)) [.pu (.str op), .pu (.int a), .pu (.int b), .pu (.int w), .pu (.tuple ((bs w a).map ni)), .pu (.tuple ((bs w b).map ni)), .no, .no, .pu (.int (k : Int)), .no, .no]) :
    lcL [8] (gNm 8) oYes oe (rangeD 0 w) [.pu (.str op), .pu (.int a), .pu (.int b), .pu (.int w), .pu (.tuple ((bs w a).map ni)), .pu (.tuple ((bs w b).map ni)), .no, .no, .no, .no, .no] =
      .ok ((List.range w).map fun k => .int (f k)) [.pu (.str op), .pu (.int a), .pu (.int b), .pu (.int w), .pu (.tuple ((bs w a).map ni)), .pu (.tuple ((bs w b).map ni)), .no, .no, .no, .no, .no] := by
  rw [rangeD_map]
  exact lcL_map fun k hk => ⟨[.pu (.str op), .pu (.int a), .pu (.int b), .pu (.int w), .pu (.tuple ((bs w a).map ni)), .pu (.tuple ((bs w b).map ni)), .no, .no, .pu (.int (k : Int)), .no, .no], [.pu (.str op), .pu (.int a), .pu (.int b), .pu (.int w), .pu (.tuple ((bs w a).map ni)), .pu (.tuple ((bs w b).map ni)), .no, .no, .pu (.int (k : Int)), .no, .no], by simp [setSl_ok], he k (List.mem_range.mp hk), rfl⟩
theorem rl (hw : w ≤ 60) : (rangeD 0 w).length ≤ 16000000 := by rw [rangeD_length]; omega
theorem b_and (hw : w ≤ 60) (ha : In w a) (hb : In w b) : ∃ o, g__law_bitwise [.pu (.str "and"), .pu (.int a), .pu (.int b), .pu (.int w)] = .ret (.pu (.int (Builtin.bitAnd a b))) o := by
  have h1 := fun ρ => rg1_nat (n := w) (by omega) ρ
  have h2 := rl hw
  have h3 := comp2 (a := a) (b := b) hw (op := "and") (oe := oFrz (oCB fMin2 (oCons (oPu (oFrz (oBin fIx (oVar 4) (oVar 8)))) (oCons (oPu (oFrz (oBin fIx (oVar 5) (oVar 8)))) oNil)))) (f := fun k => if bt b k < bt a k then bt b k else bt a k) (fun k hk => by
    have i1 := ixb hk a
    have i2 := ixb hk b
    simp [-ix_t, ap_var, i1, i2, fMin2])
  have h4 := word_r hw (f := fun k => if bt b k < bt a k then bt b k else bt a k) fun k => by have := bt01 a k; have := bt01 b k; split <;> assumption
  rw [wv_and w a b ha hb] at h4
  refine ⟨[.pu (.str "and"), .pu (.int a), .pu (.int b), .pu (.int w)], ?_⟩
  simp [-rg1_eq, g__law_bitwise, fnOf_eq, b__law_bitwise, ap_var, setSl_ok, bits_ok (show w ≤ 100 by omega), h1, lc1_eq, okW, loose, h2, wipeR, restR, lcE, h3, h4]
theorem b_or (hw : w ≤ 60) (ha : In w a) (hb : In w b) : ∃ o, g__law_bitwise [.pu (.str "or"), .pu (.int a), .pu (.int b), .pu (.int w)] = .ret (.pu (.int (Builtin.bitOr a b))) o := by
  have h1 := fun ρ => rg1_nat (n := w) (by omega) ρ
  have h2 := rl hw
  have h3 := comp2 (a := a) (b := b) hw (op := "or") (oe := oFrz (oCB fMax2 (oCons (oPu (oFrz (oBin fIx (oVar 4) (oVar 8)))) (oCons (oPu (oFrz (oBin fIx (oVar 5) (oVar 8)))) oNil)))) (f := fun k => if bt b k > bt a k then bt b k else bt a k) (fun k hk => by
    have i1 := ixb hk a
    have i2 := ixb hk b
    simp [-ix_t, ap_var, i1, i2, fMax2])
  have h4 := word_r hw (f := fun k => if bt b k > bt a k then bt b k else bt a k) fun k => by have := bt01 a k; have := bt01 b k; split <;> assumption
  rw [wv_or w a b ha hb] at h4
  refine ⟨[.pu (.str "or"), .pu (.int a), .pu (.int b), .pu (.int w)], ?_⟩
  simp [-rg1_eq, g__law_bitwise, fnOf_eq, b__law_bitwise, ap_var, setSl_ok, bits_ok (show w ≤ 100 by omega), h1, lc1_eq, okW, loose, h2, wipeR, restR, lcE, h3, h4]
theorem neInt (i j : Int) : fNe (.int i) (.int j) = some (.pu (.bool (!decide (i = j)))) := by
  unfold fNe
  rw [if_pos ⟨rfl, rfl⟩]
  simp [PyData.eqv, Bool.beq_eq_decide_eq]
theorem b_xor (hw : w ≤ 60) (ha : In w a) (hb : In w b) : ∃ o, g__law_bitwise [.pu (.str "xor"), .pu (.int a), .pu (.int b), .pu (.int w)] = .ret (.pu (.int (Builtin.bitXor a b))) o := by
  have h1 := fun ρ => rg1_nat (n := w) (by omega) ρ
  have h2 := rl hw
  have h3 := comp2 (a := a) (b := b) hw (op := "xor") (oe := oFrz (oCB fIntX (oCons (oPu (oFrz (oBin fNe (oPu (oFrz (oBin fIx (oVar 4) (oVar 8)))) (oPu (oFrz (oBin fIx (oVar 5) (oVar 8))))))) oNil))) (f := fun k => if bt a k = bt b k then 0 else 1) (fun k hk => by
    have i1 := ixb hk a
    have i2 := ixb hk b
    by_cases q : bt a k = bt b k <;> simp [-ix_t, ap_var, i1, i2, neInt, q])
  have h4 := word_r hw (f := fun k => if bt a k = bt b k then 0 else 1) fun k => by split <;> simp
  rw [wv_xor w a b ha hb] at h4
  refine ⟨[.pu (.str "xor"), .pu (.int a), .pu (.int b), .pu (.int w)], ?_⟩
  simp [-rg1_eq, g__law_bitwise, fnOf_eq, b__law_bitwise, ap_var, setSl_ok, bits_ok (show w ≤ 100 by omega), h1, lc1_eq, okW, loose, h2, wipeR, restR, lcE, h3, h4]
end
end K09
namespace K09
open PySem Ow
theorem max01 : ∀ (ns : List Int) (n : Int), (n = 0 ∨ n = 1) → (∀ x ∈ ns, x = 0 ∨ x = 1) → ns.foldl max n = if n = 1 ∨ 1 ∈ ns then 1 else 0
  | [], n, h, _ => by rcases h with rfl | rfl <;> simp
  | x :: ns, n, h, hs => by
    have hx := hs x List.mem_cons_self
    have m0 : max (0 : Int) 0 = 0 := by decide
    have m1 : max (0 : Int) 1 = 1 := by decide
    have m2 : max (1 : Int) 0 = 1 := by decide
    have m3 : max (1 : Int) 1 = 1 := by decide
    have ih := max01 ns (max n x) (by rcases h with rfl | rfl <;> rcases hx with rfl | rfl <;> simp only [m0, m1, m2, m3] <;> decide) fun y hy => hs y (List.mem_cons_of_mem _ hy)
    rw [List.foldl_cons, ih]
    rcases h with rfl | rfl <;> rcases hx with rfl | rfl <;> simp [m0, m1, m2, m3]
theorem wv_zero : ∀ l : List Int, (∀ x ∈ l, x = 0) → wv l = 0
  | [], _ => rfl
  | x :: l, h => by
    show x + 2 * wv l = 0
    rw [h x List.mem_cons_self, wv_zero l fun y hy => h y (List.mem_cons_of_mem _ hy)]
    rfl
theorem any_is {w : Nat} {a : Int} (ha : In (w + 1) a) : ∃ n ns, bs (w + 1) a = n :: ns ∧ ns.foldl max n = if 0 < a then 1 else 0 := by
  have hl : (bs (w + 1) a).length = w + 1 := bs_len _ _
  have h01 : ∀ x ∈ bs (w + 1) a, x = 0 ∨ x = 1 := fun x hx => by
    unfold bs at hx
    obtain ⟨k, _, rfl⟩ := List.mem_map.mp hx
    exact bt01 a k
  have hv : wv (bs (w + 1) a) = a := wv_bits (w + 1) a ha
  cases hb : bs (w + 1) a with
  | nil => rw [hb] at hl; cases hl
  | cons n ns =>
    rw [hb] at h01 hv
    refine ⟨n, ns, rfl, ?_⟩
    rw [max01 ns n (h01 n List.mem_cons_self) fun x hx => h01 x (List.mem_cons_of_mem _ hx)]
    by_cases h1 : n = 1 ∨ 1 ∈ ns
    · have hp : 0 < a := by
        rcases (by omega : 0 < a ∨ a ≤ 0) with q | q
        · exact q
        · exfalso
          have ha0 : a = 0 := by have := ha.1; omega
          subst ha0
          have hz : ∀ x ∈ bs (w + 1) 0, x = 0 := fun x hx => by
            unfold bs at hx
            obtain ⟨k, _, rfl⟩ := List.mem_map.mp hx
            unfold bt
            simp
          rw [hb] at hz
          rcases h1 with h1 | h1
          · have := hz n List.mem_cons_self; omega
          · have := hz 1 (List.mem_cons_of_mem _ h1); omega
      rw [if_pos h1, if_pos hp]
    · rw [if_neg h1, if_neg]
      intro hp
      have hz : ∀ x ∈ n :: ns, x = 0 := fun x hx => by
        rcases h01 x hx with q | q
        · exact q
        · exfalso
          apply h1
          subst q
          rcases List.mem_cons.mp hx with q | q
          · exact .inl q.symm
          · exact .inr q
      have := wv_zero _ hz
      omega
theorem eqvI : ∀ xs ys : List Int, PyData.eqvAll (xs.map ni) (ys.map ni) = decide (xs = ys)
  | [], [] => rfl
  | [], _ :: _ => rfl
  | _ :: _, [] => rfl
  | x :: xs, y :: ys => by
    show (PyData.eqv (ni x) (ni y) && PyData.eqvAll (xs.map ni) (ys.map ni)) = _
    rw [eqvI xs ys]
    show ((x == y) && decide (xs = ys)) = _
    by_cases h1 : x = y <;> by_cases h2 : xs = ys <;> simp [h1, h2]
theorem layI : ∀ xs : List Int, PyData.canLayAll0 (xs.map ni) = true
  | [] => rfl
  | x :: xs => by show (true && PyData.canLayAll0 (xs.map ni)) = true; rw [layI xs]; rfl
theorem shI (xs : List Int) : SeqAt.shaped (.tuple (xs.map ni)) = true ∧ SeqAt.shaped (.list (xs.map ni)) = true := by
  have hd : PyData.depthAll (xs.map ni) = 0 := depth_ints xs
  have h1 : PyData.canLay0 (.tuple (xs.map ni)) = true := layI xs
  have h2 : PyData.canLay0 (.list (xs.map ni)) = true := layI xs
  have h3 : PyData.depth (.tuple (xs.map ni)) ≤ 64 := by show PyData.depthAll (xs.map ni) + 1 ≤ 64; rw [hd]; decide
  have h4 : PyData.depth (.list (xs.map ni)) ≤ 64 := by show PyData.depthAll (xs.map ni) + 1 ≤ 64; rw [hd]; decide
  unfold SeqAt.shaped
  rw [h1, h2, decide_eq_true h3, decide_eq_true h4]
  exact ⟨rfl, rfl⟩
theorem eqTI (xs ys : List Int) : fEq (.tuple (xs.map ni)) (.tuple (ys.map ni)) = some (.pu (.bool (decide (xs = ys)))) := by
  unfold fEq
  rw [if_pos ⟨(shI xs).1, (shI ys).1⟩]
  show some (Rs.pu (.bool (PyData.eqvAll (xs.map ni) (ys.map ni)))) = _
  rw [eqvI]
theorem neLI (xs ys : List Int) : fNe (.list (xs.map ni)) (.list (ys.map ni)) = some (.pu (.bool (!decide (xs = ys)))) := by
  unfold fNe
  rw [if_pos ⟨(shI xs).2, (shI ys).2⟩]
  show some (Rs.pu (.bool (!PyData.eqvAll (xs.map ni) (ys.map ni)))) = _
  rw [eqvI]
section
variable {w : Nat} {a b : Int}
theorem b_not (hw : w ≤ 60) (ha : In w a) : ∃ o, g__law_bitwise [.pu (.str "not"), .pu (.int a), .pu (.int b), .pu (.int w)] = .ret (.pu (.int (2 ^ w - 1 - a))) o := by
  have h2 : ((bs w a).map ni).length ≤ 16000000 := by rw [List.length_map, bs_len]; omega
  have h3 : lcL [10] (gNm 10) oYes (oFrz (oBin fSub (oPu (oC (.int 1))) (oVar 10))) ((bs w a).map ni) [.pu (.str "not"), .pu (.int a), .pu (.int b), .pu (.int w), .pu (.tuple ((bs w a).map ni)), .pu (.tuple ((bs w b).map ni)), .no, .no, .no, .no, .no] =
      .ok ((List.range w).map fun k => .int (1 - bt a k)) [.pu (.str "not"), .pu (.int a), .pu (.int b), .pu (.int w), .pu (.tuple ((bs w a).map ni)), .pu (.tuple ((bs w b).map ni)), .no, .no, .no, .no, .no] := by
    have e : (bs w a).map ni = (List.range w).map fun k => .int (bt a k) := by unfold bs; rw [map_ni]
    generalize hT : (PyData.tuple ((bs w a).map ni)) = T
    rw [e]
    exact lcL_map fun k hk => ⟨[.pu (.str "not"), .pu (.int a), .pu (.int b), .pu (.int w), .pu T, .pu (.tuple ((bs w b).map ni)), .no, .no, .no, .no, .pu (.int (bt a k))], [.pu (.str "not"), .pu (.int a), .pu (.int b), .pu (.int w), .pu T, .pu (.tuple ((bs w b).map ni)), .no, .no, .no, .no, .pu (.int (bt a k))], by simp [setSl_ok], by simp [ap_var], rfl⟩
  have h4 := word_r hw (f := fun k => 1 - bt a k) fun k => by have := bt01 a k; omega
  rw [wv_not w a ha] at h4
  refine ⟨[.pu (.str "not"), .pu (.int a), .pu (.int b), .pu (.int w)], ?_⟩
  simp [-List.length_map, -List.map_map, g__law_bitwise, fnOf_eq, b__law_bitwise, ap_var, setSl_ok, bits_ok (show w ≤ 100 by omega), lc1_eq, okW, loose, h2, wipeR, restR, lcE, h3, h4]
theorem b_any (hw : w + 1 ≤ 60) (ha : In (w + 1) a) : ∃ o, g__law_bitwise [.pu (.str "any"), .pu (.int a), .pu (.int b), .pu (.int ((w + 1 : Nat) : Int))] = .ret (.pu (.int (if 0 < a then 1 else 0))) o := by
  obtain ⟨n, ns, e1, e2⟩ := any_is ha
  have h1 := bits_ok (show w + 1 ≤ 100 by omega) a
  have h2 := bits_ok (show w + 1 ≤ 100 by omega) b
  have h3 : fMax1X [.tuple ((bs (w + 1) a).map ni)] = some (.pu (.int (if 0 < a then 1 else 0))) := by
    rw [e1, ← e2]
    exact f_max1T n ns
  generalize ((w + 1 : Nat) : Int) = W at h1 h2
  refine ⟨[.pu (.str "any"), .pu (.int a), .pu (.int b), .pu (.int W)], ?_⟩
  simp [g__law_bitwise, fnOf_eq, b__law_bitwise, ap_var, setSl_ok, h1, h2, h3]
theorem b_eq (hw : w ≤ 60) (ha : In w a) (hb : In w b) : ∃ o, g__law_bitwise [.pu (.str "eq"), .pu (.int a), .pu (.int b), .pu (.int w)] = .ret (.pu (.int (if a = b then 1 else 0))) o := by
  have e := eqTI (bs w a) (bs w b)
  have e2 : (bs w a = bs w b) ↔ a = b := ⟨fun h => by rw [← wv_bits w a ha, ← wv_bits w b hb]; exact congrArg wv h, fun h => by rw [h]⟩
  refine ⟨[.pu (.str "eq"), .pu (.int a), .pu (.int b), .pu (.int w)], ?_⟩
  by_cases h : a = b
  · subst h
    simp only [decide_eq_true (show bs w a = bs w a from rfl)] at e
    simp [g__law_bitwise, fnOf_eq, b__law_bitwise, ap_var, setSl_ok, bits_ok (show w ≤ 100 by omega), e]
  · have h' : ¬ bs w a = bs w b := fun q => h (e2.mp q)
    rw [decide_eq_false h'] at e
    simp [g__law_bitwise, fnOf_eq, b__law_bitwise, ap_var, setSl_ok, bits_ok (show w ≤ 100 by omega), e, h]
end
end K09
namespace K09
open PySem Ow
/-- from n - 1 down to 0 -/
def desc (n : Nat) : List D := (List.range n).map fun i => .int (((n : Nat) : Int) - 1 + ((i : Nat) : Int) * (-1))
theorem desc_succ (n : Nat) : desc (n + 1) = .int ((n : Nat) : Int) :: desc n := by
  unfold desc
  rw [List.range_succ_eq_map, List.map_cons, List.map_map]
  congr 1
  · congr 1
    push_cast
    omega
  · refine List.map_congr_left fun i _ => ?_
    show PyData.int _ = PyData.int _
    congr 1
    push_cast
    omega
theorem rg3_desc {w : Nat} (hw : w ≤ 60) (ρ : Rho) : rg3 [.int ((w : Int) - 1), .int (-1), .int (-1)] ρ = .ok (desc w) ρ := by
  have h : ∀ w : Nat, w < 61 → (Builtin.Range.small ((w : Int) - 1) (-1) (-1) = true ∧ Builtin.Range.rangeSize ((w : Int) - 1) (-1) (-1) = w) := by decide +kernel
  obtain ⟨h1, h2⟩ := h w (by omega)
  unfold rg3
  dsimp only
  rw [if_pos ⟨by decide, by decide, h1, by rw [h2]; omega⟩]
  unfold rgN rangeC desc
  rw [h2]
  rfl
def lowm (v : Int) (n : Nat) : Int := v % 2 ^ n
theorem low_succ (v : Int) (n : Nat) : lowm v (n + 1) = lowm v n + 2 ^ n * bt v n := by
  unfold lowm bt
  rw [Int.pow_succ]
  have h1 := Int.emod_add_mul_ediv v (2 ^ n)
  have h2 := Int.emod_add_mul_ediv (v / 2 ^ n) 2
  have h3 := Int.emod_add_mul_ediv v (2 ^ n * 2)
  have h4 : v / (2 ^ n * 2) = v / 2 ^ n / 2 := by rw [Int.ediv_ediv_of_nonneg (Int.le_of_lt (Int.pow_pos (by decide)))]
  rw [h4] at h3
  generalize v / 2 ^ n = q at h1 h2 h3 ⊢
  generalize q / 2 = r at h2 h3
  have h5 : (2 : Int) ^ n * 2 * r = 2 ^ n * (2 * r) := Int.mul_assoc _ _ _
  have h6 : (2 : Int) ^ n * (q % 2 + 2 * r) = 2 ^ n * (q % 2) + 2 ^ n * (2 * r) := Int.mul_add _ _ _
  rw [h2] at h6
  omega
theorem low_lt (v : Int) (n : Nat) : 0 ≤ lowm v n ∧ lowm v n < 2 ^ n := ⟨Int.emod_nonneg _ (Int.ne_of_gt (Int.pow_pos (by decide))), Int.emod_lt_of_pos _ (Int.pow_pos (by decide))⟩
theorem low_in {w : Nat} {v : Int} (h : In w v) : lowm v w = v := Int.emod_eq_of_lt h.1 h.2
def ltB : Os := oIfS (oTst (oBin fNe (oPu (oFrz (oBin fIx (oVar 4) (oVar 8)))) (oPu (oFrz (oBin fIx (oVar 5) (oVar 8))))))
 (oRet (oBin fIx (oVar 5) (oVar 8)))
 oNext
theorem lt_loop {w : Nat} {a b : Int} (s0 s1 s2 s3 s6 s7 : Sl) : ∀ (n : Nat) (s8 : Sl), n ≤ w → okS (some s8) = true → ∃ s8', forL (gNm 8) ltB (desc n) [s0, s1, s2, s3, .pu (.tuple ((bs w a).map ni)), .pu (.tuple ((bs w b).map ni)), s6, s7, s8, .no, .no] =
    (if lowm a n = lowm b n then .nx [s0, s1, s2, s3, .pu (.tuple ((bs w a).map ni)), .pu (.tuple ((bs w b).map ni)), s6, s7, s8', .no, .no] else .rt (.pu (.int (if lowm a n < lowm b n then 1 else 0))) [s0, s1, s2, s3, .pu (.tuple ((bs w a).map ni)), .pu (.tuple ((bs w b).map ni)), s6, s7, s8', .no, .no])
  | 0, s8, _, _ => ⟨s8, by
    have e : lowm a 0 = lowm b 0 := by have := low_lt a 0; have := low_lt b 0; rw [Int.pow_zero] at *; omega
    rw [if_pos e]
    rfl⟩
  | n + 1, s8, hn, h8 => by
    obtain ⟨s8', ih⟩ := lt_loop (w := w) (a := a) (b := b) s0 s1 s2 s3 s6 s7 n (.pu (.int n)) (by omega) rfl
    have i1 := ixb (show n < w by omega) a
    have i2 := ixb (show n < w by omega) b
    have la := low_succ a n
    have lb := low_succ b n
    have ha := low_lt a n
    have hb := low_lt b n
    have pp : (0 : Int) < 2 ^ n := Int.pow_pos (by decide)
    rw [desc_succ, forL_cons]
    by_cases q : bt a n = bt b n
    · refine ⟨s8', ?_⟩
      rw [q] at la
      have e1 : (lowm a (n + 1) = lowm b (n + 1)) ↔ (lowm a n = lowm b n) := by rw [la, lb]; omega
      have e2 : (lowm a (n + 1) < lowm b (n + 1)) ↔ (lowm a n < lowm b n) := by rw [la, lb]; omega
      simp only [e1, e2]
      rw [← ih]
      have hb1 : ltB [s0, s1, s2, s3, .pu (.tuple ((bs w a).map ni)), .pu (.tuple ((bs w b).map ni)), s6, s7, .pu (.int n), .no, .no] = .nx [s0, s1, s2, s3, .pu (.tuple ((bs w a).map ni)), .pu (.tuple ((bs w b).map ni)), s6, s7, .pu (.int n), .no, .no] := by
        simp [-ix_t, ltB, ap_var, i1, i2, neInt, q]
      simp [setSl_ok, h8, hb1]
    · refine ⟨.pu (.int n), ?_⟩
      have hb1 : ltB [s0, s1, s2, s3, .pu (.tuple ((bs w a).map ni)), .pu (.tuple ((bs w b).map ni)), s6, s7, .pu (.int n), .no, .no] = .rt (.pu (.int (bt b n))) [s0, s1, s2, s3, .pu (.tuple ((bs w a).map ni)), .pu (.tuple ((bs w b).map ni)), s6, s7, .pu (.int n), .no, .no] := by
        simp [-ix_t, ltB, ap_var, i1, i2, neInt, q]
      have v : ¬ lowm a (n + 1) = lowm b (n + 1) ∧ (if lowm a (n + 1) < lowm b (n + 1) then (1 : Int) else 0) = bt b n := by
        rw [la, lb]
        rcases bt01 a n with qa | qa <;> rcases bt01 b n with qb | qb <;> rw [qa, qb]
        · exact absurd (qa.trans qb.symm) q
        · refine ⟨by omega, if_pos (by omega)⟩
        · refine ⟨by omega, if_neg (by omega)⟩
        · exact absurd (qa.trans qb.symm) q
      rw [if_neg v.1, v.2]
      simp [setSl_ok, h8, hb1]
section
variable {w : Nat} {a b : Int}
theorem b_lt (hw : w ≤ 60) (ha : In w a) (hb : In w b) : ∃ o, g__law_bitwise [.pu (.str "lt"), .pu (.int a), .pu (.int b), .pu (.int w)] = .ret (.pu (.int (if a < b then 1 else 0))) o := by
  obtain ⟨s8, h⟩ := lt_loop (w := w) (a := a) (b := b) (.pu (.str "lt")) (.pu (.int a)) (.pu (.int b)) (.pu (.int w)) .no .no w .no (Nat.le_refl _) rfl
  rw [low_in ha, low_in hb] at h
  have h3 := fun ρ => rg3_desc hw ρ
  have h1 := bits_ok (show w ≤ 100 by omega) a
  have h2 := bits_ok (show w ≤ 100 by omega) b
  unfold ltB at h
  refine ⟨[.pu (.str "lt"), .pu (.int a), .pu (.int b), .pu (.int w)], ?_⟩
  by_cases q : a = b
  · subst q
    rw [if_pos rfl] at h
    simp [g__law_bitwise, fnOf_eq, b__law_bitwise, ap_var, setSl_ok, h1, h2, h3, h]
  · rw [if_neg q] at h
    simp [g__law_bitwise, fnOf_eq, b__law_bitwise, ap_var, setSl_ok, h1, h2, h3, h]
end
def addB : Os := (oSeq (oSet 9 (oBin fAdd (oPu (oFrz (oBin fAdd (oPu (oFrz (oBin fIx (oVar 4) (oVar 8)))) (oVar 6)))) (oPu (oFrz (oIf (oTst (oBin fEq (oVar 0) (oPu (oC (.str "sub"))))) (oBin fSub (oPu (oC (.int 1))) (oPu (oFrz (oBin fIx (oVar 5) (oVar 8))))) (oBin fIx (oVar 5) (oVar 8)))))))
 (oSeq (oDrop (oPu (oMutK 7 fAppend (oCons (oFrz (oBin fAnd (oVar 9) (oPu (oC (.int 1))))) oNil))))
 (oSet 6 (oBin fShr (oVar 9) (oPu (oC (.int 1)))))))
def cyL (f g : Nat → Int) (c : Int) (k : Nat) : List D := ((List.range k).map fun j => (f j + cy f g c j + g j) % 2).map ni
theorem shr1 (x : Int) : fShr (.int x) (.int 1) = some (.pu (.int (x / 2))) := rfl
theorem and1 (x : Int) : fAnd (.int x) (.int 1) = some (.pu (.int (x % 2))) := by
  show some (Rs.pu (.int (Builtin.bitAnd x 1))) = _
  rw [PyProof.Rows.bitAnd_m1]
theorem add_loop {w : Nat} {a b : Int} (hw : w ≤ 60) {op : Str} {s1 s2 s3 : Sl} {g : Nat → Int} {c : Int} {t : Bool} (ht : fEq (.str op) (.str "sub") = some (.pu (.bool t))) (hg : ∀ k, g k = if t = true then 1 - bt b k else bt b k) :
    ∃ s8 s9, forL (gNm 8) addB (rangeD 0 w) [.pu (.str op), s1, s2, s3, .pu (.tuple ((bs w a).map ni)), .pu (.tuple ((bs w b).map ni)), .pu (.int c), .ow false (.li []), .no, .no, .no] =
      .nx [.pu (.str op), s1, s2, s3, .pu (.tuple ((bs w a).map ni)), .pu (.tuple ((bs w b).map ni)), .pu (.int (cy (bt a) g c w)), .ow false (.li (cyL (bt a) g c w)), s8, s9, .no] := by
  obtain ⟨ρ', h1, s8, s9, rfl⟩ := forL_inv (g := gNm 8) (b := addB)
    (fun r ρ => match r with
      | [] => ∃ s8 s9, ρ = [.pu (.str op), s1, s2, s3, .pu (.tuple ((bs w a).map ni)), .pu (.tuple ((bs w b).map ni)), .pu (.int (cy (bt a) g c w)), .ow false (.li (cyL (bt a) g c w)), s8, s9, .no]
      | _ => ∃ (k : Nat) (s8 s9 : Sl), k < w ∧ r = (List.range' k (w - k)).map (fun i => PyData.int ((i : Nat) : Int)) ∧ okS (some s8) = true ∧ okS (some s9) = true ∧
        ρ = [.pu (.str op), s1, s2, s3, .pu (.tuple ((bs w a).map ni)), .pu (.tuple ((bs w b).map ni)), .pu (.int (cy (bt a) g c k)), .ow false (.li (cyL (bt a) g c k)), s8, s9, .no])
    (ds := rangeD 0 w) (ρ := [.pu (.str op), s1, s2, s3, .pu (.tuple ((bs w a).map ni)), .pu (.tuple ((bs w b).map ni)), .pu (.int c), .ow false (.li []), .no, .no, .no]) (by
      rintro d r ρ _ ⟨k, s8, s9, hk, hr, h8, h9, rfl⟩
      rw [show w - k = (w - (k + 1)) + 1 by omega, List.range'_succ, List.map_cons] at hr
      obtain ⟨hd, hr2⟩ := List.cons.inj hr
      subst hd
      have i1 := ixb hk a
      have i2 := ixb hk b
      have hlen : (cyL (bt a) g c k).length < 16000000 := by unfold cyL; simp; omega
      have hcy : cy (bt a) g c (k + 1) = (bt a k + cy (bt a) g c k + g k) / 2 := rfl
      have hcl : cyL (bt a) g c (k + 1) = cyL (bt a) g c k ++ [.int ((bt a k + cy (bt a) g c k + g k) % 2)] := by
        unfold cyL
        rw [List.range_succ, List.map_append, List.map_append]
        rfl
      have step : addB [.pu (.str op), s1, s2, s3, .pu (.tuple ((bs w a).map ni)), .pu (.tuple ((bs w b).map ni)), .pu (.int (cy (bt a) g c k)), .ow false (.li (cyL (bt a) g c k)), .pu (.int k), s9, .no] =
          .nx [.pu (.str op), s1, s2, s3, .pu (.tuple ((bs w a).map ni)), .pu (.tuple ((bs w b).map ni)), .pu (.int (cy (bt a) g c (k + 1))), .ow false (.li (cyL (bt a) g c (k + 1))), .pu (.int k), .pu (.int (bt a k + cy (bt a) g c k + g k)), .no] := by
        rw [hcy, hcl, hg k]
        cases t <;> simp [-ix_t, addB, ap_var, setSl_ok, i1, i2, ht, h9, hlen, and1, shr1]
      refine ⟨_, _, by rw [gNm_eq, setSl_ok, if_pos (by simpa using h8)], .inl (by simpa using step), ?_⟩
      by_cases hk2 : k + 1 < w
      · have : w - (k + 1) = (w - (k + 2)) + 1 := by omega
        rw [this, List.range'_succ, List.map_cons] at hr2
        subst hr2
        refine ⟨k + 1, _, _, hk2, ?_, rfl, rfl, rfl⟩
        rw [show w - (k + 1) = (w - (k + 2)) + 1 by omega, List.range'_succ, List.map_cons]
      · have e : k + 1 = w := by omega
        rw [show w - (k + 1) = 0 by omega] at hr2
        subst hr2
        rw [e]
        exact ⟨_, _, rfl⟩) (by
      cases hwz : w with
      | zero => exact ⟨_, _, rfl⟩
      | succ n =>
        have e : rangeD 0 (n + 1) = (List.range' 0 (n + 1)).map (fun i => PyData.int ((i : Nat) : Int)) := by rw [rangeD_map, List.range_eq_range']
        rw [e, List.range'_succ, List.map_cons]
        exact ⟨0, .no, .no, by omega, by rw [Nat.sub_zero, List.range'_succ, List.map_cons], rfl, rfl, rfl⟩)
  exact ⟨s8, s9, h1⟩
theorem b_add {w : Nat} {a b : Int} (hw : w ≤ 60) (ha : In w a) (hb : In w b) : ∃ o, g__law_bitwise [.pu (.str "add"), .pu (.int a), .pu (.int b), .pu (.int w)] = .ret (.pu (.int ((a + b) % 2 ^ w))) o := by
  obtain ⟨s8, s9, h⟩ := add_loop (w := w) (a := a) (b := b) hw (op := "add") (s1 := .pu (.int a)) (s2 := .pu (.int b)) (s3 := .pu (.int w)) (g := bt b) (c := 0) (t := false) (by simp) (fun k => by simp)
  have h1 := fun ρ => rg1_nat (n := w) (by omega) ρ
  have h2 := bits_ok (show w ≤ 100 by omega) a
  have h3 := bits_ok (show w ≤ 100 by omega) b
  have h4 := word_ok (l := (List.range w).map fun j => (bt a j + cy (bt a) (bt b) 0 j + bt b j) % 2) (by simp; omega) (fun x hx => by obtain ⟨k, _, rfl⟩ := List.mem_map.mp hx; omega) (.inr rfl)
  rw [add_is ha hb] at h4
  unfold addB cyL at h
  refine ⟨[.pu (.str "add"), .pu (.int a), .pu (.int b), .pu (.int w)], ?_⟩
  simp [-rg1_eq, -List.map_map, g__law_bitwise, fnOf_eq, b__law_bitwise, ap_var, setSl_ok, h1, h2, h3, h, h4]
theorem b_sub {w : Nat} {a b : Int} (hw : w ≤ 60) (ha : In w a) (hb : In w b) : ∃ o, g__law_bitwise [.pu (.str "sub"), .pu (.int a), .pu (.int b), .pu (.int w)] = .ret (.pu (.int ((a - b) % 2 ^ w))) o := by
  obtain ⟨s8, s9, h⟩ := add_loop (w := w) (a := a) (b := b) hw (op := "sub") (s1 := .pu (.int a)) (s2 := .pu (.int b)) (s3 := .pu (.int w)) (g := fun k => 1 - bt b k) (c := 1) (t := true) (by simp) (fun k => by simp)
  have h1 := fun ρ => rg1_nat (n := w) (by omega) ρ
  have h2 := bits_ok (show w ≤ 100 by omega) a
  have h3 := bits_ok (show w ≤ 100 by omega) b
  have h4 := word_ok (l := (List.range w).map fun j => (bt a j + cy (bt a) (fun k => 1 - bt b k) 1 j + (1 - bt b j)) % 2) (by simp; omega) (fun x hx => by obtain ⟨k, _, rfl⟩ := List.mem_map.mp hx; omega) (.inr rfl)
  rw [sub_is ha hb] at h4
  unfold addB cyL at h
  refine ⟨[.pu (.str "sub"), .pu (.int a), .pu (.int b), .pu (.int w)], ?_⟩
  simp [-rg1_eq, -List.map_map, g__law_bitwise, fnOf_eq, b__law_bitwise, ap_var, setSl_ok, h1, h2, h3, h, h4]
end K09
namespace K09
open PySem Ow
theorem kii : L2.kitB "int" "int" = some true := by decide +kernel
theorem kib : L2.kitB "int" "bool" = some false := by decide +kernel
theorem isint_ok (v : Int) : g__law_is_int [.pu (.int v)] = .ret (.pu (.bool true)) [.pu (.int v)] := by
  simp [g__law_is_int, fnOf_eq, b__law_is_int, ap_var, tyName, kii, kib]
theorem wb1 (ρ : Rho) (d : D) (o : List Sl) : wb [.pu d] o ρ = ρ := by
  cases o with
  | nil => rfl
  | cons a o => rw [wb_pu, wb_nil]
theorem wbp : ∀ (ds : List D) (o : List Sl) (ρ : Rho), wb (ds.map Va.pu) o ρ = ρ
  | [], o, ρ => by rw [List.map_nil, wb_nil]
  | d :: ds, [], ρ => rfl
  | d :: ds, a :: o, ρ => by rw [List.map_cons, wb_pu, wbp ds o ρ]
theorem wb4 (ρ : Rho) (a b c d : D) (o : List Sl) : wb [.pu a, .pu b, .pu c, .pu d] o ρ = ρ := wbp [a, b, c, d] o ρ
theorem wb5 (ρ : Rho) (a b c d e : D) (o : List Sl) : wb [.pu a, .pu b, .pu c, .pu d, .pu e] o ρ = ρ := wbp [a, b, c, d, e] o ρ
/-- word_value tells v of these, as tuples and as lists -/
def Tells (op : D) (xs ys : List Int) (own v : Int) : Prop := (∃ o, g_word_value [.pu op, .pu (.tuple (xs.map ni)), .pu (.tuple (ys.map ni)), .pu (.int own)] = .ret (.pu (.int v)) o) ∧
  ∃ o, g_word_value [.pu op, .pu (.list (xs.map ni)), .pu (.list (ys.map ni)), .pu (.int own)] = .ret (.pu (.int v)) o
/-- a tuple or a list of ints -/
def Row (X : D) (xs : List Int) : Prop := X = .tuple (xs.map ni) ∨ X = .list (xs.map ni)
theorem told_ok {op : Str} {X Y : D} {xs ys : List Int} {own v : Int} (hX : Row X xs) (hY : Row Y ys) (h : Tells (.str op) xs ys own v) : ∃ o, g__law_told [.pu (.str op), .pu X, .pu Y, .pu (.int own), .pu (.int v)] = .ret (.pu (.bool true)) o := by
  obtain ⟨⟨o, e⟩, _⟩ := h
  refine ⟨[.pu (.str op), .pu X, .pu Y, .pu (.int own), .pu (.int v)], ?_⟩
  have hx : fTuple [X] = some (.pu (.tuple (xs.map ni))) := by rcases hX with rfl | rfl <;> rfl
  have hy : fTuple [Y] = some (.pu (.tuple (ys.map ni))) := by rcases hY with rfl | rfl <;> rfl
  simp [g__law_told, fnOf_eq, b__law_told, ap_var, setSl_ok, hx, hy, e, wb4, isint_ok, eqInt]
theorem twice_ok {op : Str} {X Y : D} {xs ys : List Int} {own v : Int} (hX : Row X xs) (hY : Row Y ys) (h : Tells (.str op) xs ys own v) : ∃ o, g__law_told_twice [.pu (.str op), .pu X, .pu Y, .pu (.int own), .pu (.int v)] = .ret (.pu (.bool true)) o := by
  obtain ⟨o1, e1⟩ := told_ok hX hY h
  obtain ⟨_, o, e⟩ := h
  refine ⟨[.pu (.str op), .pu X, .pu Y, .pu (.int own), .pu (.int v)], ?_⟩
  have hx : fList [X] = some (.nw (.li (xs.map ni))) := by rcases hX with rfl | rfl <;> rfl
  have hy : fList [Y] = some (.nw (.li (ys.map ni))) := by rcases hY with rfl | rfl <;> rfl
  have n1 := neLI xs xs
  have n2 := neLI ys ys
  rw [decide_eq_true rfl] at n1 n2
  have hd : ∀ ρ : Rho, keep1 (.pu X) ρ = .ok X ρ := fun _ => rfl
  simp [g__law_told_twice, fnOf_eq, b__law_told_twice, ap_var, setSl_ok, hx, hy, e, e1, wb4, wb5, isint_ok, neInt, n1, n2]
end K09
namespace K09
open PySem Ow
def Cased (op : D) (a b : Int) (w : Nat) (xs ys : List Int) : Prop := ∃ (own : Nat) (v : Int), (∃ o, g__law_case [.pu op, .pu (.int a), .pu (.int b), .pu (.int w)] = .ret (.pu (.tuple [.tuple (xs.map ni), .tuple (ys.map ni), .int own, .int v])) o) ∧ Tells op xs ys own v
theorem i1_and : inD (.str (Str.ofString "and")) [.str (Str.ofString "not"), .str (Str.ofString "any")] = false := by decide +kernel
theorem i2_and : inD (.str (Str.ofString "and")) [.str (Str.ofString "any"), .str (Str.ofString "eq"), .str (Str.ofString "lt")] = false := by decide +kernel
theorem i1_or : inD (.str (Str.ofString "or")) [.str (Str.ofString "not"), .str (Str.ofString "any")] = false := by decide +kernel
theorem i2_or : inD (.str (Str.ofString "or")) [.str (Str.ofString "any"), .str (Str.ofString "eq"), .str (Str.ofString "lt")] = false := by decide +kernel
theorem i1_xor : inD (.str (Str.ofString "xor")) [.str (Str.ofString "not"), .str (Str.ofString "any")] = false := by decide +kernel
theorem i2_xor : inD (.str (Str.ofString "xor")) [.str (Str.ofString "any"), .str (Str.ofString "eq"), .str (Str.ofString "lt")] = false := by decide +kernel
theorem i1_add : inD (.str (Str.ofString "add")) [.str (Str.ofString "not"), .str (Str.ofString "any")] = false := by decide +kernel
theorem i2_add : inD (.str (Str.ofString "add")) [.str (Str.ofString "any"), .str (Str.ofString "eq"), .str (Str.ofString "lt")] = false := by decide +kernel
theorem i1_sub : inD (.str (Str.ofString "sub")) [.str (Str.ofString "not"), .str (Str.ofString "any")] = false := by decide +kernel
theorem i2_sub : inD (.str (Str.ofString "sub")) [.str (Str.ofString "any"), .str (Str.ofString "eq"), .str (Str.ofString "lt")] = false := by decide +kernel
theorem i1_eq : inD (.str (Str.ofString "eq")) [.str (Str.ofString "not"), .str (Str.ofString "any")] = false := by decide +kernel
theorem i2_eq : inD (.str (Str.ofString "eq")) [.str (Str.ofString "any"), .str (Str.ofString "eq"), .str (Str.ofString "lt")] = true := by decide +kernel
theorem i1_lt : inD (.str (Str.ofString "lt")) [.str (Str.ofString "not"), .str (Str.ofString "any")] = false := by decide +kernel
theorem i2_lt : inD (.str (Str.ofString "lt")) [.str (Str.ofString "any"), .str (Str.ofString "eq"), .str (Str.ofString "lt")] = true := by decide +kernel
theorem i1_not : inD (.str (Str.ofString "not")) [.str (Str.ofString "not"), .str (Str.ofString "any")] = true := by decide +kernel
theorem i2_not : inD (.str (Str.ofString "not")) [.str (Str.ofString "any"), .str (Str.ofString "eq"), .str (Str.ofString "lt")] = false := by decide +kernel
theorem i1_any : inD (.str (Str.ofString "any")) [.str (Str.ofString "not"), .str (Str.ofString "any")] = true := by decide +kernel
theorem i2_any : inD (.str (Str.ofString "any")) [.str (Str.ofString "any"), .str (Str.ofString "eq"), .str (Str.ofString "lt")] = true := by decide +kernel
theorem c_and {w : Nat} {a b : Int} (hw : w ≤ 60) (ha : In w a) (hb : In w b) : Cased (.str "and") a b w [a, b] [w, w] := by
  obtain ⟨o, e⟩ := b_and hw ha hb
  refine ⟨w, Builtin.bitAnd a b, ⟨[.pu (.str "and"), .pu (.int a), .pu (.int b), .pu (.int w)], ?_⟩, ⟨_, w_and (w := w) (by omega) rfl rfl⟩, ⟨_, w_and (w := w) (by omega) rfl rfl⟩⟩
  generalize hv : (Builtin.bitAnd a b : Int) = v at e ⊢
  generalize hW : ((w : Nat) : Int) = W at e ⊢
  simp [g__law_case, fnOf_eq, b__law_case, ap_var, setSl_ok, flatD, i1_and, i2_and, e, wb4, ni]
theorem c_or {w : Nat} {a b : Int} (hw : w ≤ 60) (ha : In w a) (hb : In w b) : Cased (.str "or") a b w [a, b] [w, w] := by
  obtain ⟨o, e⟩ := b_or hw ha hb
  refine ⟨w, Builtin.bitOr a b, ⟨[.pu (.str "or"), .pu (.int a), .pu (.int b), .pu (.int w)], ?_⟩, ⟨_, w_or (w := w) (by omega) rfl rfl⟩, ⟨_, w_or (w := w) (by omega) rfl rfl⟩⟩
  generalize hv : (Builtin.bitOr a b : Int) = v at e ⊢
  generalize hW : ((w : Nat) : Int) = W at e ⊢
  simp [g__law_case, fnOf_eq, b__law_case, ap_var, setSl_ok, flatD, i1_or, i2_or, e, wb4, ni]
theorem c_xor {w : Nat} {a b : Int} (hw : w ≤ 60) (ha : In w a) (hb : In w b) : Cased (.str "xor") a b w [a, b] [w, w] := by
  obtain ⟨o, e⟩ := b_xor hw ha hb
  refine ⟨w, Builtin.bitXor a b, ⟨[.pu (.str "xor"), .pu (.int a), .pu (.int b), .pu (.int w)], ?_⟩, ⟨_, w_xor (w := w) (by omega) rfl rfl⟩, ⟨_, w_xor (w := w) (by omega) rfl rfl⟩⟩
  generalize hv : (Builtin.bitXor a b : Int) = v at e ⊢
  generalize hW : ((w : Nat) : Int) = W at e ⊢
  simp [g__law_case, fnOf_eq, b__law_case, ap_var, setSl_ok, flatD, i1_xor, i2_xor, e, wb4, ni]
theorem c_add {w : Nat} {a b : Int} (hw : w ≤ 60) (ha : In w a) (hb : In w b) : Cased (.str "add") a b w [a, b] [w, w] := by
  obtain ⟨o, e⟩ := b_add hw ha hb
  refine ⟨w, (a + b) % 2 ^ w, ⟨[.pu (.str "add"), .pu (.int a), .pu (.int b), .pu (.int w)], ?_⟩, ⟨_, w_add (w := w) (by omega) rfl rfl⟩, ⟨_, w_add (w := w) (by omega) rfl rfl⟩⟩
  generalize hv : ((a + b) % 2 ^ w : Int) = v at e ⊢
  generalize hW : ((w : Nat) : Int) = W at e ⊢
  simp [g__law_case, fnOf_eq, b__law_case, ap_var, setSl_ok, flatD, i1_add, i2_add, e, wb4, ni]
theorem c_sub {w : Nat} {a b : Int} (hw : w ≤ 60) (ha : In w a) (hb : In w b) : Cased (.str "sub") a b w [a, b] [w, w] := by
  obtain ⟨o, e⟩ := b_sub hw ha hb
  refine ⟨w, (a - b) % 2 ^ w, ⟨[.pu (.str "sub"), .pu (.int a), .pu (.int b), .pu (.int w)], ?_⟩, ⟨_, w_sub (w := w) (by omega) rfl rfl⟩, ⟨_, w_sub (w := w) (by omega) rfl rfl⟩⟩
  generalize hv : ((a - b) % 2 ^ w : Int) = v at e ⊢
  generalize hW : ((w : Nat) : Int) = W at e ⊢
  simp [g__law_case, fnOf_eq, b__law_case, ap_var, setSl_ok, flatD, i1_sub, i2_sub, e, wb4, ni]
theorem c_eq {w : Nat} {a b : Int} (hw : w ≤ 60) (ha : In w a) (hb : In w b) : Cased (.str "eq") a b w [a, b] [w, w] := by
  obtain ⟨o, e⟩ := b_eq hw ha hb
  refine ⟨1, if a = b then 1 else 0, ⟨[.pu (.str "eq"), .pu (.int a), .pu (.int b), .pu (.int w)], ?_⟩, ⟨_, w_eq (w := 1) (by omega) rfl rfl⟩, ⟨_, w_eq (w := 1) (by omega) rfl rfl⟩⟩
  generalize hv : (if a = b then 1 else 0 : Int) = v at e ⊢
  generalize hW : ((w : Nat) : Int) = W at e ⊢
  simp [g__law_case, fnOf_eq, b__law_case, ap_var, setSl_ok, flatD, i1_eq, i2_eq, e, wb4, ni]
theorem c_lt {w : Nat} {a b : Int} (hw : w ≤ 60) (ha : In w a) (hb : In w b) : Cased (.str "lt") a b w [a, b] [w, w] := by
  obtain ⟨o, e⟩ := b_lt hw ha hb
  refine ⟨1, if a < b then 1 else 0, ⟨[.pu (.str "lt"), .pu (.int a), .pu (.int b), .pu (.int w)], ?_⟩, ⟨_, w_lt (w := 1) (by omega) rfl rfl⟩, ⟨_, w_lt (w := 1) (by omega) rfl rfl⟩⟩
  generalize hv : (if a < b then 1 else 0 : Int) = v at e ⊢
  generalize hW : ((w : Nat) : Int) = W at e ⊢
  simp [g__law_case, fnOf_eq, b__law_case, ap_var, setSl_ok, flatD, i1_lt, i2_lt, e, wb4, ni]
theorem c_not {w : Nat} {a b : Int} (hw : w ≤ 60) (ha : In w a) : Cased (.str "not") a b w [a] [w] := by
  obtain ⟨o, e⟩ := b_not (b := b) hw ha
  refine ⟨w, 2 ^ w - 1 - a, ⟨[.pu (.str "not"), .pu (.int a), .pu (.int b), .pu (.int w)], ?_⟩, ⟨_, w_not (w := w) (by omega) rfl⟩, ⟨_, w_not (w := w) (by omega) rfl⟩⟩
  generalize hv : (2 ^ w - 1 - a : Int) = v at e ⊢
  generalize hW : ((w : Nat) : Int) = W at e ⊢
  simp [g__law_case, fnOf_eq, b__law_case, ap_var, setSl_ok, flatD, i1_not, i2_not, e, wb4, ni]
theorem c_any {w : Nat} {a b : Int} (hw : w + 1 ≤ 60) (ha : In (w + 1) a) : Cased (.str "any") a b (w + 1) [a] [((w + 1 : Nat) : Int)] := by
  obtain ⟨o, e⟩ := b_any (b := b) hw ha
  refine ⟨1, if 0 < a then 1 else 0, ⟨[.pu (.str "any"), .pu (.int a), .pu (.int b), .pu (.int ((w + 1 : Nat) : Int))], ?_⟩, ⟨_, w_any (w := 1) (by omega) rfl⟩, ⟨_, w_any (w := 1) (by omega) rfl⟩⟩
  generalize hv : (if 0 < a then 1 else 0 : Int) = v at e ⊢
  generalize hW : ((w + 1 : Nat) : Int) = W at e ⊢
  simp [g__law_case, fnOf_eq, b__law_case, ap_var, setSl_ok, flatD, i1_any, i2_any, e, wb4, ni]
def pairOps : List D := [.str "and", .str "or", .str "xor", .str "add", .str "sub", .str "eq", .str "lt"]
theorem c_pair {w : Nat} {a b : Int} (hw : w ≤ 60) (ha : In w a) (hb : In w b) {op : D} (h : op ∈ pairOps) : ∃ s : Str, op = .str s ∧ Cased op a b w [a, b] [w, w] := by
  unfold pairOps at h
  simp only [List.mem_cons, List.not_mem_nil, or_false] at h
  rcases h with rfl | rfl | rfl | rfl | rfl | rfl | rfl
  · exact ⟨_, rfl, c_and hw ha hb⟩
  · exact ⟨_, rfl, c_or hw ha hb⟩
  · exact ⟨_, rfl, c_xor hw ha hb⟩
  · exact ⟨_, rfl, c_add hw ha hb⟩
  · exact ⟨_, rfl, c_sub hw ha hb⟩
  · exact ⟨_, rfl, c_eq hw ha hb⟩
  · exact ⟨_, rfl, c_lt hw ha hb⟩
theorem c_any' {w : Nat} {a b : Int} (h1 : 1 ≤ w) (hw : w ≤ 60) (ha : In w a) : Cased (.str "any") a b w [a] [w] := by
  obtain ⟨k, rfl⟩ : ∃ k, w = k + 1 := ⟨w - 1, by omega⟩
  exact c_any hw ha
theorem pair_ops_ok : g__law_pair_ops [] = .ret (.nw (.li pairOps)) [] := by
  simp [g__law_pair_ops, fnOf, b__law_pair_ops, oRet, oLst, oCons, oC, oNil, pairOps]
end K09
namespace K09
open PySem Ow
theorem range_in {w : Nat} {d : D} (h : d ∈ rangeD 0 (2 ^ w)) : ∃ a : Int, d = .int a ∧ In w a := by
  rw [rangeD_map] at h
  obtain ⟨k, hk, rfl⟩ := List.mem_map.mp h
  refine ⟨k, rfl, by omega, ?_⟩
  have h1 : ((k : Nat) : Int) < ((2 ^ w : Nat) : Int) := Int.ofNat_lt.mpr (List.mem_range.mp hk)
  rw [Int.natCast_pow] at h1
  exact h1
theorem rg_pow {w : Nat} (hw : w ≤ 8) (ρ : Rho) : rg1 [.int (2 ^ w)] ρ = .ok (rangeD 0 (2 ^ w)) ρ := by
  have h1 : (2 : Nat) ^ w ≤ 2 ^ 8 := Nat.pow_le_pow_right (by decide) hw
  have h := rg1_nat (n := 2 ^ w) (by omega) ρ
  rw [Int.natCast_pow] at h
  exact h
def AI (w : Nat) (ρ : Rho) : Prop := ∃ k1 k2 k3 k4 k5 k6 k7, ρ = [.pu (.int w), k1, k2, k3, k4, k5, k6, k7] ∧ okS (some k1) = true ∧ okS (some k2) = true ∧ okS (some k3) = true ∧ okS (some k4) = true ∧ okS (some k5) = true ∧ okS (some k6) = true ∧ okS (some k7) = true
def AI1 (w : Nat) (a : Int) (ρ : Rho) : Prop := ∃ k2 k3 k4 k5 k6 k7, ρ = [.pu (.int w), .pu (.int a), k2, k3, k4, k5, k6, k7] ∧ okS (some k2) = true ∧ okS (some k3) = true ∧ okS (some k4) = true ∧ okS (some k5) = true ∧ okS (some k6) = true ∧ okS (some k7) = true
def AI2 (w : Nat) (a b : Int) (ρ : Rho) : Prop := ∃ k2 k4 k5 k6 k7, ρ = [.pu (.int w), .pu (.int a), k2, .pu (.int b), k4, k5, k6, k7] ∧ okS (some k2) = true ∧ okS (some k4) = true ∧ okS (some k5) = true ∧ okS (some k6) = true ∧ okS (some k7) = true
noncomputable def bA : Os := (oSeq (oAsg (oFrz (oCall g__law_case (oCons (oPu (oKeep (oVar 2))) (oCons (oPu (oKeep (oVar 1))) (oCons (oPu (oC (.int 0))) (oCons (oPu (oKeep (oVar 0))) oNil)))))) (gTp 4 (gCn (gNm 4) (gCn (gNm 5) (gCn (gNm 6) (gCn (gNm 7) gNl))))))
 (oIfS (oNot (oTst (oCall g__law_told (oCons (oPu (oKeep (oVar 2))) (oCons (oPu (oKeep (oVar 4))) (oCons (oPu (oKeep (oVar 5))) (oCons (oPu (oKeep (oVar 6))) (oCons (oPu (oKeep (oVar 7))) oNil))))))))
 (oRet (oRes (oC (.bool false))))
 oNext))
noncomputable def bB : Os := (oSeq (oAsg (oFrz (oCall g__law_case (oCons (oPu (oKeep (oVar 2))) (oCons (oPu (oKeep (oVar 1))) (oCons (oPu (oKeep (oVar 3))) (oCons (oPu (oKeep (oVar 0))) oNil)))))) (gTp 4 (gCn (gNm 4) (gCn (gNm 5) (gCn (gNm 6) (gCn (gNm 7) gNl))))))
 (oIfS (oNot (oTst (oCall g__law_told (oCons (oPu (oKeep (oVar 2))) (oCons (oPu (oKeep (oVar 4))) (oCons (oPu (oKeep (oVar 5))) (oCons (oPu (oKeep (oVar 6))) (oCons (oPu (oKeep (oVar 7))) oNil))))))))
 (oRet (oRes (oC (.bool false))))
 oNext))
theorem bA_ok {w : Nat} {a : Int} {s : Str} {xs ys : List Int} (hc : Cased (.str s) a 0 w xs ys) {k3 k4 k5 k6 k7 : Sl} (h4 : okS (some k4) = true) (h5 : okS (some k5) = true) (h6 : okS (some k6) = true) (h7 : okS (some k7) = true) :
    ∃ ρ2, bA [.pu (.int w), .pu (.int a), .pu (.str s), k3, k4, k5, k6, k7] = .nx ρ2 ∧ ∃ x4 x5 x6 x7, ρ2 = [.pu (.int w), .pu (.int a), .pu (.str s), k3, .pu x4, .pu x5, .pu x6, .pu x7] := by
  obtain ⟨own, v, ⟨o, e⟩, ht⟩ := hc
  obtain ⟨o2, e2⟩ := told_ok (X := .tuple (xs.map ni)) (Y := .tuple (ys.map ni)) (.inl rfl) (.inl rfl) ht
  refine ⟨[.pu (.int w), .pu (.int a), .pu (.str s), k3, .pu (.tuple (xs.map ni)), .pu (.tuple (ys.map ni)), .pu (.int own), .pu (.int v)], ?_, _, _, _, _, rfl⟩
  simp [bA, ap_var, setSl_ok, e, e2, wb4, wb5, h4, h5, h6, h7]
theorem bB_ok {w : Nat} {a b : Int} {s : Str} {xs ys : List Int} (hc : Cased (.str s) a b w xs ys) {k4 k5 k6 k7 : Sl} (h4 : okS (some k4) = true) (h5 : okS (some k5) = true) (h6 : okS (some k6) = true) (h7 : okS (some k7) = true) :
    ∃ ρ2, bB [.pu (.int w), .pu (.int a), .pu (.str s), .pu (.int b), k4, k5, k6, k7] = .nx ρ2 ∧ ∃ x4 x5 x6 x7, ρ2 = [.pu (.int w), .pu (.int a), .pu (.str s), .pu (.int b), .pu x4, .pu x5, .pu x6, .pu x7] := by
  obtain ⟨own, v, ⟨o, e⟩, ht⟩ := hc
  obtain ⟨o2, e2⟩ := told_ok (X := .tuple (xs.map ni)) (Y := .tuple (ys.map ni)) (.inl rfl) (.inl rfl) ht
  refine ⟨[.pu (.int w), .pu (.int a), .pu (.str s), .pu (.int b), .pu (.tuple (xs.map ni)), .pu (.tuple (ys.map ni)), .pu (.int own), .pu (.int v)], ?_, _, _, _, _, rfl⟩
  simp [bB, ap_var, setSl_ok, e, e2, wb4, wb5, h4, h5, h6, h7]
theorem lA {w : Nat} (h1 : 1 ≤ w) (hw : w ≤ 60) {a : Int} (ha : In w a) {ρ : Rho} (h : AI1 w a ρ) : ∃ ρ', forL (gNm 2) bA [.str "not", .str "any"] ρ = .nx ρ' ∧ AI1 w a ρ' := by
  refine forL_all (AI1 w a) (ds := [.str "not", .str "any"]) ?_ h
  rintro d hd ρ ⟨k2, k3, k4, k5, k6, k7, rfl, q2, q3, q4, q5, q6, q7⟩
  obtain ⟨s, xs, ys, rfl, hc⟩ : ∃ s xs ys, d = .str s ∧ Cased (.str s) a 0 w xs ys := by
    simp only [List.mem_cons, List.not_mem_nil, or_false] at hd
    rcases hd with rfl | rfl
    · exact ⟨_, _, _, rfl, c_not hw ha⟩
    · exact ⟨_, _, _, rfl, c_any' h1 hw ha⟩
  obtain ⟨ρ2, e, x4, x5, x6, x7, rfl⟩ := bA_ok hc (k3 := k3) q4 q5 q6 q7
  exact ⟨_, _, by rw [gNm_eq, setSl_ok, if_pos (by simpa using q2)], by simpa using e, _, k3, _, _, _, _, rfl, rfl, q3, rfl, rfl, rfl, rfl⟩
theorem lB {w : Nat} (hw : w ≤ 60) {a b : Int} (ha : In w a) (hb : In w b) {ρ : Rho} (h : AI2 w a b ρ) : ∃ ρ', forL (gNm 2) bB pairOps ρ = .nx ρ' ∧ AI2 w a b ρ' := by
  refine forL_all (AI2 w a b) ?_ h
  rintro d hd ρ ⟨k2, k4, k5, k6, k7, rfl, q2, q4, q5, q6, q7⟩
  obtain ⟨s, rfl, hc⟩ := c_pair hw ha hb hd
  obtain ⟨ρ2, e, x4, x5, x6, x7, rfl⟩ := bB_ok hc q4 q5 q6 q7
  exact ⟨_, _, by rw [gNm_eq, setSl_ok, if_pos (by simpa using q2)], by simpa using e, _, _, _, _, _, rfl, rfl, rfl, rfl, rfl, rfl⟩
theorem shl_ok {w : Nat} (hw : w ≤ 60) : fShl (.int 1) (.int (w : Int)) = some (.pu (.int (2 ^ w))) := whole_ok hw
theorem lC {w : Nat} (hw : w ≤ 8) {a : Int} (ha : In w a) {ρ : Rho} (h : AI1 w a ρ) : ∃ ρ', forL (gNm 3) (oFor (oItm (oPu (oFrz (oCall g__law_pair_ops oNil)))) (gNm 2) bB) (rangeD 0 (2 ^ w)) ρ = .nx ρ' ∧ AI1 w a ρ' := by
  refine forL_all (AI1 w a) ?_ h
  rintro d hd ρ ⟨k2, k3, k4, k5, k6, k7, rfl, q2, q3, q4, q5, q6, q7⟩
  obtain ⟨b, rfl, hb⟩ := range_in hd
  obtain ⟨ρ', e, k2', k4', k5', k6', k7', rfl, r2, r4, r5, r6, r7⟩ := lB (w := w) (by omega) ha hb (ρ := [.pu (.int w), .pu (.int a), k2, .pu (.int b), k4, k5, k6, k7]) ⟨_, _, _, _, _, rfl, q2, q4, q5, q6, q7⟩
  refine ⟨[.pu (.int w), .pu (.int a), k2, .pu (.int b), k4, k5, k6, k7], _, by simp [setSl_ok, q3], ?_, k2', .pu (.int b), k4', k5', k6', k7', rfl, r2, rfl, r4, r5, r6, r7⟩
  simp [pair_ops_ok, e]
theorem all_told {w : Nat} (h1 : 1 ≤ w) (hw : w ≤ 8) : ∃ o, g__law_all_told [.pu (.int w)] = .ret (.pu (.bool true)) o := by
  obtain ⟨ρ', e, k1, k2, k3, k4, k5, k6, k7, rfl, _⟩ := forL_all (g := gNm 1) (b := oSeq (oFor (oItm (oPu (oTup (oCons (oC (.str "not")) (oCons (oC (.str "any")) oNil))))) (gNm 2) bA) (oFor (oRange (oCons (oFrz (oBin fShl (oPu (oC (.int 1))) (oVar 0))) oNil)) (gNm 3) (oFor (oItm (oPu (oFrz (oCall g__law_pair_ops oNil)))) (gNm 2) bB)))
    (AI w) (ds := rangeD 0 (2 ^ w)) (ρ := [.pu (.int w), .no, .no, .no, .no, .no, .no, .no]) (by
      rintro d hd ρ ⟨k1, k2, k3, k4, k5, k6, k7, rfl, q1, q2, q3, q4, q5, q6, q7⟩
      obtain ⟨a, rfl, ha⟩ := range_in hd
      obtain ⟨ρ1, e1, x1⟩ := lA h1 (by omega) ha (ρ := [.pu (.int w), .pu (.int a), k2, k3, k4, k5, k6, k7]) ⟨_, _, _, _, _, _, rfl, q2, q3, q4, q5, q6, q7⟩
      obtain ⟨ρ2, e2, x2⟩ := lC hw ha x1
      obtain ⟨a2, a3, a4, a5, a6, a7, rfl, _⟩ := x1
      obtain ⟨c2, c3, c4, c5, c6, c7, rfl, r2, r3, r4, r5, r6, r7⟩ := x2
      refine ⟨[.pu (.int w), .pu (.int a), k2, k3, k4, k5, k6, k7], _, by simp [setSl_ok, q1], ?_, .pu (.int a), c2, c3, c4, c5, c6, c7, rfl, rfl, r2, r3, r4, r5, r6, r7⟩
      simp [-rg1_eq, -f_shl, ap_var, e1, shl_ok (show w ≤ 60 by omega), rg_pow hw, e2]) ⟨_, _, _, _, _, _, _, rfl, rfl, rfl, rfl, rfl, rfl, rfl, rfl⟩
  refine ⟨[.pu (.int w)], ?_⟩
  have hA := bA
  unfold bA bB at e
  simp [-rg1_eq, -f_shl, g__law_all_told, fnOf_eq, b__law_all_told, ap_var, shl_ok (show w ≤ 60 by omega), rg_pow hw, e]
end K09
namespace K09
open PySem Ow
theorem two_pos (w : Nat) : (0 : Int) < 2 ^ w := Int.pow_pos (by decide)
theorem two_le {w n : Nat} (h : w ≤ n) : (2 : Int) ^ w ≤ 2 ^ n := by
  have h1 : (2 : Nat) ^ w ≤ 2 ^ n := Nat.pow_le_pow_right (by decide) h
  have h2 : (((2 : Nat) ^ w : Nat) : Int) ≤ (((2 : Nat) ^ n : Nat) : Int) := Int.ofNat_le.mpr h1
  rw [Int.natCast_pow, Int.natCast_pow] at h2
  exact h2
theorem edge {ds : List D} (h : DOK ds) {w : Nat} (h1 : 1 ≤ w) (hw : w ≤ 60) : ∃ (a : Int) (ds' : List D), In w a ∧ DOK ds' ∧ g__law_edge_word [.ow true (.li ds), .pu (.int w)] = .ret (.pu (.int a)) [.ow true (.li ds'), .pu (.int w)] := by
  have hp := two_pos w
  have hp2 := two_le hw
  have hp1 := two_le h1
  have hp3 := two_pos (w - 1)
  have hpw : (2 : Int) ^ w = 2 ^ (w - 1) * 2 := by
    have q := Int.pow_succ (2 : Int) (w - 1)
    rw [show (w - 1).succ = w by omega] at q
    exact q
  obtain ⟨r, ds1, hd1, r0, r1, e1⟩ := draw h (m := 2 ^ w) (by omega) (by omega)
  have hs := shl_ok hw
  have hs1 : fShl (.int 1) (.int ((w : Int) - 1)) = some (.pu (.int (2 ^ (w - 1)))) := by
    have := shl_ok (show w - 1 ≤ 60 by omega)
    rw [show (((w - 1 : Nat) : Nat) : Int) = (w : Int) - 1 by omega] at this
    exact this
  obtain ⟨x, ds2, hd2, hx, e2⟩ := pickL hd1 (xs := [.int 0, .int 1, .int (2 ^ w - 1), .int (2 ^ (w - 1)), .int r, .int r, .int r, .int r]) (by simp) (by simp)
  simp only [List.mem_cons, List.not_mem_nil, or_false] at hx
  obtain ⟨a, rfl, ha⟩ : ∃ a, x = .int a ∧ In w a := by
    rcases hx with rfl | rfl | rfl | rfl | rfl | rfl | rfl | rfl
    · exact ⟨_, rfl, by omega, by omega⟩
    · exact ⟨_, rfl, by omega, by omega⟩
    · exact ⟨_, rfl, by omega, by omega⟩
    · exact ⟨_, rfl, by omega, by omega⟩
    all_goals exact ⟨_, rfl, by omega, by omega⟩
  refine ⟨a, ds2, ha, hd2, ?_⟩
  have hm : fMulX (.list [.int r]) (.int 4) = some (.nw (.li [.int r, .int r, .int r, .int r])) := by
    show fMul (.list [.int r]) (.int 4) = _
    unfold fMul
    rfl
  generalize hW : ((w : Nat) : Int) = W at *
  simp [-f_shl, g__law_edge_word, fnOf_eq, b__law_edge_word, ap_var, setSl_ok, hs, hs1, e1, e2, hm]
noncomputable def bC : Os := (oSeq (oAsg (oFrz (oCall g__law_case (oCons (oPu (oKeep (oVar 4))) (oCons (oPu (oKeep (oVar 2))) (oCons (oPu (oKeep (oVar 3))) (oCons (oPu (oKeep (oVar 1))) oNil)))))) (gTp 4 (gCn (gNm 5) (gCn (gNm 6) (gCn (gNm 7) (gCn (gNm 8) gNl))))))
 (oIfS (oNot (oTst (oCall g__law_told_twice (oCons (oPu (oKeep (oVar 4))) (oCons (oPu (oKeep (oVar 5))) (oCons (oPu (oKeep (oVar 6))) (oCons (oPu (oKeep (oVar 7))) (oCons (oPu (oKeep (oVar 8))) oNil))))))))
 (oRet (oRes (oC (.bool false))))
 oNext))
def DI (w : Nat) (a b : Int) (d : Sl) (ρ : Rho) : Prop := ∃ k4 k5 k6 k7 k8, ρ = [d, .pu (.int w), .pu (.int a), .pu (.int b), k4, k5, k6, k7, k8] ∧ okS (some k4) = true ∧ okS (some k5) = true ∧ okS (some k6) = true ∧ okS (some k7) = true ∧ okS (some k8) = true
theorem lD {w : Nat} (h1 : 1 ≤ w) (hw : w ≤ 60) {a b : Int} (ha : In w a) (hb : In w b) {d : Sl} {ρ : Rho} (h : DI w a b d ρ) : ∃ ρ', forL (gNm 4) bC (pairOps ++ [.str "not", .str "any"]) ρ = .nx ρ' ∧ DI w a b d ρ' := by
  refine forL_all (DI w a b d) ?_ h
  rintro t ht ρ ⟨k4, k5, k6, k7, k8, rfl, q4, q5, q6, q7, q8⟩
  obtain ⟨s, xs, ys, rfl, own, v, ⟨o, e⟩, hT⟩ : ∃ s xs ys, t = .str s ∧ Cased (.str s) a b w xs ys := by
    rcases List.mem_append.mp ht with ht | ht
    · obtain ⟨s, rfl, hc⟩ := c_pair hw ha hb ht
      exact ⟨s, _, _, rfl, hc⟩
    · simp only [List.mem_cons, List.not_mem_nil, or_false] at ht
      rcases ht with rfl | rfl
      · exact ⟨_, _, _, rfl, c_not hw ha⟩
      · exact ⟨_, _, _, rfl, c_any' h1 hw ha⟩
  obtain ⟨o2, e2⟩ := twice_ok (X := .tuple (xs.map ni)) (Y := .tuple (ys.map ni)) (.inl rfl) (.inl rfl) hT
  refine ⟨[d, .pu (.int w), .pu (.int a), .pu (.int b), .pu (.str s), k5, k6, k7, k8], [d, .pu (.int w), .pu (.int a), .pu (.int b), .pu (.str s), .pu (.tuple (xs.map ni)), .pu (.tuple (ys.map ni)), .pu (.int own), .pu (.int v)], by simp [setSl_ok, q4], ?_, _, _, _, _, _, rfl, rfl, rfl, rfl, rfl, rfl⟩
  simp [bC, ap_var, setSl_ok, e, e2, wb4, wb5, q5, q6, q7, q8]
theorem drawn_told {ds : List D} (h : DOK ds) : ∃ ds', DOK ds' ∧ g__law_drawn_told [.ow true (.li ds)] = .ret (.pu (.bool true)) [.ow true (.li ds')] := by
  obtain ⟨r, ds1, hd1, r0, r1, e1⟩ := draw h (m := 8) (by decide) (by decide)
  obtain ⟨w, hw⟩ : ∃ w : Nat, (1 + r : Int) = w := ⟨(1 + r).toNat, by omega⟩
  obtain ⟨a, ds2, ha, hd2, e2⟩ := edge hd1 (w := w) (by omega) (by omega)
  obtain ⟨b, ds3, hb, hd3, e3⟩ := edge hd2 (w := w) (by omega) (by omega)
  obtain ⟨ρ', e4, k4, k5, k6, k7, k8, rfl, _⟩ := lD (w := w) (by omega) (by omega) ha hb (d := .ow true (.li ds3)) (ρ := [.ow true (.li ds3), .pu (.int w), .pu (.int a), .pu (.int b), .no, .no, .no, .no, .no]) ⟨_, _, _, _, _, rfl, rfl, rfl, rfl, rfl, rfl⟩
  refine ⟨ds3, hd3, ?_⟩
  unfold bC at e4
  have hl : pairOps.length + 2 ≤ 16000000 := by decide
  simp [g__law_drawn_told, fnOf_eq, b__law_drawn_told, ap_var, setSl_ok, e1, hw, e2, e3, pair_ops_ok, hl, e4]
end K09
namespace K09
open PySem Ow
theorem tells_join {low : Nat} {own : Int} {one two : Int} (hl : low ≤ 60) (h2 : two.natAbs < 2 ^ 64) (high : Int) : Tells (.str "join") [one, two] [(low : Int), high] own (one + two * 2 ^ low) := by
  have hs : fShl (.int two) (.int (low : Int)) = some (.pu (.int (two * 2 ^ low))) := by
    rw [f_shl, if_pos ⟨by omega, by rw [Int.natAbs_natCast]; omega, h2⟩]
    rfl
  constructor
  · refine ⟨[.pu (.str "join"), .pu (.tuple [.int one, .int two]), .pu (.tuple [.int low, .int high]), .pu (.int own)], ?_⟩
    simp [-f_shl, g_word_value, fnOf_eq, b_word_value, ap_var, setSl_ok, ni, hs]
  · refine ⟨[.pu (.str "join"), .pu (.list [.int one, .int two]), .pu (.list [.int low, .int high]), .pu (.int own)], ?_⟩
    simp [-f_shl, g_word_value, fnOf_eq, b_word_value, ap_var, setSl_ok, ni, hs]
theorem join_told {low high : Nat} {one two : Int} (hl : low ≤ 30) (hh : high ≤ 30) (h1 : In low one) (h2 : In high two) : ∃ o, g__law_join_told [.pu (.int low), .pu (.int high), .pu (.int one), .pu (.int two)] = .ret (.pu (.bool true)) o := by
  have e1 := bits_ok (show low ≤ 100 by omega) one
  have e2 := bits_ok (show high ≤ 100 by omega) two
  have hv : wv (bs low one ++ bs high two) = one + two * 2 ^ low := by
    rw [wv_cat, bs_len]
    unfold bs
    rw [wv_bits low one h1, wv_bits high two h2, Int.mul_comm]
  have e3 := word_ok (l := bs low one ++ bs high two) (by rw [List.length_append, bs_len, bs_len]; omega) (fun x hx => by
    rcases List.mem_append.mp hx with hx | hx
    · unfold bs at hx; obtain ⟨k, _, rfl⟩ := List.mem_map.mp hx; exact bt01 _ _
    · unfold bs at hx; obtain ⟨k, _, rfl⟩ := List.mem_map.mp hx; exact bt01 _ _) (X := .tuple ((bs low one).map ni ++ (bs high two).map ni)) (.inl (by rw [List.map_append]))
  rw [hv] at e3
  have hb := two_le hh
  obtain ⟨o, e4⟩ := twice_ok (X := .tuple [.int one, .int two]) (Y := .tuple [.int low, .int high]) (xs := [one, two]) (ys := [(low : Int), (high : Int)]) (own := (low : Int) + high) (.inl rfl) (.inl rfl) (tells_join (by omega) (by have := h2.1; have := h2.2; omega) high)
  have hlen : (bs low one).length + (bs high two).length ≤ 16000000 := by rw [bs_len, bs_len]; omega
  refine ⟨[.pu (.int low), .pu (.int high), .pu (.int one), .pu (.int two)], ?_⟩
  generalize hL : ((low : Nat) : Int) = L at *
  generalize hH : ((high : Nat) : Int) = H at *
  generalize hV : one + two * 2 ^ low = V at *
  simp [g__law_join_told, fnOf_eq, b__law_join_told, ap_var, setSl_ok, e1, e2, hlen, e3, e4, wb1, wb5]
theorem tells_pick {own c one two : Int} (ys : List Int) : Tells (.str "pick") [c, one, two] ys own (if c = 1 then one else two) := by
  constructor
  · refine ⟨[.pu (.str "pick"), .pu (.tuple [.int c, .int one, .int two]), .pu (.tuple (ys.map ni)), .pu (.int own)], ?_⟩
    by_cases h : c = 1 <;> simp [g_word_value, fnOf_eq, b_word_value, ap_var, setSl_ok, ni, eqInt, h]
  · refine ⟨[.pu (.str "pick"), .pu (.list [.int c, .int one, .int two]), .pu (.list (ys.map ni)), .pu (.int own)], ?_⟩
    by_cases h : c = 1 <;> simp [g_word_value, fnOf_eq, b_word_value, ap_var, setSl_ok, ni, eqInt, h]
end K09
namespace K09
open PySem Ow
noncomputable def bP : Os := (oSeq (oIfS (oNot (oTst (oCall g__law_told_twice (oCons (oPu (oC (.str "pick"))) (oCons (oPu (oTup (oCons (oC (.int 1)) (oCons (oKeep (oVar 4)) (oCons (oKeep (oVar 5)) oNil))))) (oCons (oPu (oTup (oCons (oC (.int 1)) (oCons (oKeep (oVar 3)) (oCons (oKeep (oVar 3)) oNil))))) (oCons (oPu (oKeep (oVar 3))) (oCons (oPu (oKeep (oVar 4))) oNil))))))))
 (oRet (oRes (oC (.bool false))))
 oNext)
 (oIfS (oNot (oTst (oCall g__law_told_twice (oCons (oPu (oC (.str "pick"))) (oCons (oPu (oTup (oCons (oC (.int 0)) (oCons (oKeep (oVar 4)) (oCons (oKeep (oVar 5)) oNil))))) (oCons (oPu (oTup (oCons (oC (.int 1)) (oCons (oKeep (oVar 3)) (oCons (oKeep (oVar 3)) oNil))))) (oCons (oPu (oKeep (oVar 3))) (oCons (oPu (oKeep (oVar 5))) oNil))))))))
 (oRet (oRes (oC (.bool false))))
 oNext))
def PI (s0 s1 s2 : Sl) (ρ : Rho) : Prop := ∃ k3 k4 k5, ρ = [s0, s1, s2, k3, k4, k5] ∧ okS (some k3) = true ∧ okS (some k4) = true ∧ okS (some k5) = true
theorem lP {rows : List D} (hr : ∀ r ∈ rows, ∃ x y z : Int, r = .tuple [.int x, .int y, .int z]) {s0 s1 s2 : Sl} {ρ : Rho} (h : PI s0 s1 s2 ρ) : ∃ ρ', forL (gTp 3 (gCn (gNm 3) (gCn (gNm 4) (gCn (gNm 5) gNl)))) bP rows ρ = .nx ρ' ∧ PI s0 s1 s2 ρ' := by
  refine forL_all (PI s0 s1 s2) ?_ h
  rintro r hrr ρ ⟨k3, k4, k5, rfl, q3, q4, q5⟩
  obtain ⟨x, y, z, rfl⟩ := hr r hrr
  obtain ⟨o1, e1⟩ := twice_ok (X := .tuple [.int 1, .int y, .int z]) (Y := .tuple [.int 1, .int x, .int x]) (xs := [1, y, z]) (ys := [1, x, x]) (own := x) (v := y) (.inl rfl) (.inl rfl) (tells_pick (c := 1) (one := y) (two := z) [1, x, x])
  obtain ⟨o2, e2⟩ := twice_ok (X := .tuple [.int 0, .int y, .int z]) (Y := .tuple [.int 1, .int x, .int x]) (xs := [0, y, z]) (ys := [1, x, x]) (own := x) (v := z) (.inl rfl) (.inl rfl) (tells_pick (c := 0) (one := y) (two := z) [1, x, x])
  refine ⟨[s0, s1, s2, .pu (.int x), .pu (.int y), .pu (.int z)], [s0, s1, s2, .pu (.int x), .pu (.int y), .pu (.int z)], by simp [setSl_ok, q3, q4, q5], ?_, _, _, _, rfl, rfl, rfl, rfl⟩
  simp [bP, ap_var, e1, e2, wb5]
theorem picks_told {ds : List D} (h : DOK ds) : ∃ ds', DOK ds' ∧ g__law_picks_told [.ow true (.li ds)] = .ret (.pu (.bool true)) [.ow true (.li ds')] := by
  obtain ⟨r, ds1, hd1, r0, r1, e1⟩ := draw h (m := 8) (by decide) (by decide)
  obtain ⟨w, hw⟩ : ∃ w : Nat, (1 + r : Int) = w := ⟨(1 + r).toNat, by omega⟩
  obtain ⟨a, ds2, ha, hd2, e2⟩ := edge hd1 (w := w) (by omega) (by omega)
  obtain ⟨b, ds3, hb, hd3, e3⟩ := edge hd2 (w := w) (by omega) (by omega)
  obtain ⟨ρ', e4, k3, k4, k5, rfl, _⟩ := lP (rows := [.tuple [.int 1, .int 0, .int 1], .tuple [.int 1, .int 1, .int 0], .tuple [.int 1, .int 1, .int 1], .tuple [.int w, .int a, .int b]]) (by
    intro r hr
    simp only [List.mem_cons, List.not_mem_nil, or_false] at hr
    rcases hr with rfl | rfl | rfl | rfl <;> exact ⟨_, _, _, rfl⟩) (s0 := .ow true (.li ds3)) (s1 := .pu (.int w)) (s2 := .pu (.list [.tuple [.int 1, .int 0, .int 1], .tuple [.int 1, .int 1, .int 0], .tuple [.int 1, .int 1, .int 1], .tuple [.int w, .int a, .int b]])) (ρ := [.ow true (.li ds3), .pu (.int w), .pu (.list [.tuple [.int 1, .int 0, .int 1], .tuple [.int 1, .int 1, .int 0], .tuple [.int 1, .int 1, .int 1], .tuple [.int w, .int a, .int b]]), .no, .no, .no]) ⟨_, _, _, rfl, rfl, rfl, rfl⟩
  refine ⟨ds3, hd3, ?_⟩
  unfold bP at e4
  simp [g__law_picks_told, fnOf_eq, b__law_picks_told, ap_var, setSl_ok, e1, hw, e2, e3, e4]
end K09
namespace K09
open PySem Ow
noncomputable def bJ : Os := (oIfS (oNot (oTst (oCB fAll (oCons (oPu (oFrz (oLc [4] (oRange (oCons (oFrz (oBin fShl (oPu (oC (.int 1))) (oVar 2))) oNil)) (gNm 4) oYes (oFrz (oCall g__law_join_told (oCons (oPu (oKeep (oVar 1))) (oCons (oPu (oKeep (oVar 2))) (oCons (oPu (oKeep (oVar 3))) (oCons (oPu (oKeep (oVar 4))) oNil))))))))) oNil))))
 (oRet (oRes (oC (.bool false))))
 oNext)
theorem fAll_true (n : Nat) : fAll [.list ((List.range n).map fun _ => .bool true)] = some (.pu (.bool true)) := by
  have h := f_all ((List.range n).map fun _ => true)
  rw [List.map_map] at h
  have e : ((List.range n).map fun _ => true).all id = true := List.all_eq_true.mpr fun x hx => by
    obtain ⟨_, _, rfl⟩ := List.mem_map.mp hx
    rfl
  rw [e] at h
  exact h
theorem jBody {lo hi : Nat} (h1 : lo ≤ 8) (h2 : hi ≤ 8) {a : Int} (ha : In lo a) (s0 : Sl) : bJ [s0, .pu (.int lo), .pu (.int hi), .pu (.int a), .no] = .nx [s0, .pu (.int lo), .pu (.int hi), .pu (.int a), .no] := by
  have h : lcL [4] (gNm 4) oYes (oFrz (oCall g__law_join_told (oCons (oPu (oKeep (oVar 1))) (oCons (oPu (oKeep (oVar 2))) (oCons (oPu (oKeep (oVar 3))) (oCons (oPu (oKeep (oVar 4))) oNil)))))) (rangeD 0 (2 ^ hi)) [s0, .pu (.int lo), .pu (.int hi), .pu (.int a), .no] = .ok ((List.range (2 ^ hi)).map fun _ => .bool true) [s0, .pu (.int lo), .pu (.int hi), .pu (.int a), .no] := by
    have hm : ∀ k ∈ List.range (2 ^ hi), PyData.int ((k : Nat) : Int) ∈ rangeD 0 (2 ^ hi) := fun k hk => by rw [rangeD_map]; exact List.mem_map.mpr ⟨k, hk, rfl⟩
    rw [rangeD_map]
    refine lcL_map fun k hk => ?_
    obtain ⟨b, e, hb⟩ := range_in (hm k hk)
    cases e
    obtain ⟨o, e⟩ := join_told (show lo ≤ 30 by omega) (show hi ≤ 30 by omega) ha hb
    exact ⟨[s0, .pu (.int lo), .pu (.int hi), .pu (.int a), .pu (.int k)], [s0, .pu (.int lo), .pu (.int hi), .pu (.int a), .pu (.int k)], by simp [setSl_ok], by simp [ap_var, e, wb4], rfl⟩
  have hle : (2 : Nat) ^ hi ≤ 2 ^ 8 := Nat.pow_le_pow_right (by decide) h2
  have hlen : (rangeD 0 (2 ^ hi)).length ≤ 16000000 := by rw [rangeD_length]; omega
  have hall := fAll_true (2 ^ hi)
  simp [-rg1_eq, -f_shl, bJ, ap_var, shl_ok (show hi ≤ 60 by omega), rg_pow h2, lc1_eq, okW, loose, hlen, wipeR, restR, lcE, h, hall]
theorem jLoop3 {lo hi : Nat} (h1 : lo ≤ 8) (h2 : hi ≤ 8) {s0 k3 : Sl} (q3 : okS (some k3) = true) : ∃ k3', okS (some k3') = true ∧ forL (gNm 3) bJ (rangeD 0 (2 ^ lo)) [s0, .pu (.int lo), .pu (.int hi), k3, .no] = .nx [s0, .pu (.int lo), .pu (.int hi), k3', .no] := by
  obtain ⟨ρ', e, k3', rfl, q⟩ := forL_all (g := gNm 3) (b := bJ) (fun ρ => ∃ k3, ρ = [s0, .pu (.int lo), .pu (.int hi), k3, .no] ∧ okS (some k3) = true) (ds := rangeD 0 (2 ^ lo)) (ρ := [s0, .pu (.int lo), .pu (.int hi), k3, .no]) (by
    rintro d hd ρ ⟨k3, rfl, q⟩
    obtain ⟨a, rfl, ha⟩ := range_in hd
    exact ⟨[s0, .pu (.int lo), .pu (.int hi), .pu (.int a), .no], _, by simp [setSl_ok, q], jBody h1 h2 ha s0, _, rfl, rfl⟩) ⟨_, rfl, q3⟩
  exact ⟨k3', q, e⟩
noncomputable def bJ2 : Os := oFor (oRange (oCons (oFrz (oBin fShl (oPu (oC (.int 1))) (oVar 1))) oNil)) (gNm 3) bJ
theorem jLoop2 {lo : Nat} (h1 : lo ≤ 8) {s0 k2 k3 : Sl} (q2 : okS (some k2) = true) (q3 : okS (some k3) = true) : ∃ k2' k3', okS (some k2') = true ∧ okS (some k3') = true ∧ forL (gNm 2) bJ2 [.int 1, .int 2] [s0, .pu (.int lo), k2, k3, .no] = .nx [s0, .pu (.int lo), k2', k3', .no] := by
  obtain ⟨ρ', e, k2', k3', rfl, r2, r3⟩ := forL_all (g := gNm 2) (b := bJ2) (fun ρ => ∃ k2 k3, ρ = [s0, .pu (.int lo), k2, k3, .no] ∧ okS (some k2) = true ∧ okS (some k3) = true) (ds := [.int 1, .int 2]) (ρ := [s0, .pu (.int lo), k2, k3, .no]) (by
    rintro d hd ρ ⟨k2, k3, rfl, q2, q3⟩
    obtain ⟨hi, rfl, hh⟩ : ∃ hi : Nat, d = .int hi ∧ hi ≤ 8 := by
      simp only [List.mem_cons, List.not_mem_nil, or_false] at hd
      rcases hd with rfl | rfl
      · exact ⟨1, rfl, by decide⟩
      · exact ⟨2, rfl, by decide⟩
    obtain ⟨k3', r3, e⟩ := jLoop3 (lo := lo) (hi := hi) h1 hh (s0 := s0) q3
    exact ⟨[s0, .pu (.int lo), .pu (.int hi), k3, .no], _, by simp [setSl_ok, q2], by simp [-rg1_eq, -f_shl, bJ2, ap_var, shl_ok (show lo ≤ 60 by omega), rg_pow h1, e]; rfl, _, _, rfl, rfl, r3⟩) ⟨_, _, rfl, q2, q3⟩
  exact ⟨k2', k3', r2, r3, e⟩
theorem jLoop1 {s0 : Sl} : ∃ k1 k2 k3, okS (some k1) = true ∧ okS (some k2) = true ∧ okS (some k3) = true ∧ forL (gNm 1) (oFor (oItm (oPu (oTup (oCons (oC (.int 1)) (oCons (oC (.int 2)) oNil))))) (gNm 2) bJ2) [.int 1, .int 2] [s0, .no, .no, .no, .no] = .nx [s0, k1, k2, k3, .no] := by
  obtain ⟨ρ', e, k1, k2, k3, rfl, r1, r2, r3⟩ := forL_all (g := gNm 1) (b := oFor (oItm (oPu (oTup (oCons (oC (.int 1)) (oCons (oC (.int 2)) oNil))))) (gNm 2) bJ2) (fun ρ => ∃ k1 k2 k3, ρ = [s0, k1, k2, k3, .no] ∧ okS (some k1) = true ∧ okS (some k2) = true ∧ okS (some k3) = true) (ds := [.int 1, .int 2]) (ρ := [s0, .no, .no, .no, .no]) (by
    rintro d hd ρ ⟨k1, k2, k3, rfl, q1, q2, q3⟩
    obtain ⟨lo, rfl, hh⟩ : ∃ lo : Nat, d = .int lo ∧ lo ≤ 8 := by
      simp only [List.mem_cons, List.not_mem_nil, or_false] at hd
      rcases hd with rfl | rfl
      · exact ⟨1, rfl, by decide⟩
      · exact ⟨2, rfl, by decide⟩
    obtain ⟨k2', k3', r2, r3, e⟩ := jLoop2 (lo := lo) hh (s0 := s0) q2 q3
    exact ⟨[s0, .pu (.int lo), k2, k3, .no], _, by simp [setSl_ok, q1], by simp [e]; rfl, _, _, _, rfl, rfl, r2, r3⟩) ⟨_, _, _, rfl, rfl, rfl, rfl⟩
  exact ⟨k1, k2, k3, r1, r2, r3, e⟩
theorem joins_told {ds : List D} (h : DOK ds) : ∃ ds', DOK ds' ∧ g__law_joins_told [.ow true (.li ds)] = .ret (.pu (.bool true)) [.ow true (.li ds')] := by
  obtain ⟨k1, k2, k3, q1, q2, q3, e0⟩ := jLoop1 (s0 := .ow true (.li ds))
  obtain ⟨r, ds1, hd1, r0, r1, e1⟩ := draw h (m := 7) (by decide) (by decide)
  obtain ⟨lo, hlo⟩ : ∃ lo : Nat, (1 + r : Int) = lo := ⟨(1 + r).toNat, by omega⟩
  obtain ⟨t, ds2, hd2, t0, t1, e2⟩ := draw hd1 (m := 8 - lo) (by omega) (by omega)
  obtain ⟨hi, hhi⟩ : ∃ hi : Nat, (1 + t : Int) = hi := ⟨(1 + t).toNat, by omega⟩
  obtain ⟨a, ds3, ha, hd3, e3⟩ := edge hd2 (w := lo) (by omega) (by omega)
  obtain ⟨b, ds4, hb, hd4, e4⟩ := edge hd3 (w := hi) (by omega) (by omega)
  obtain ⟨o, e5⟩ := join_told (low := lo) (high := hi) (by omega) (by omega) ha hb
  refine ⟨ds4, hd4, ?_⟩
  unfold bJ2 bJ at e0
  generalize hL : ((lo : Nat) : Int) = L at *
  generalize hH : ((hi : Nat) : Int) = H at *
  simp [g__law_joins_told, fnOf_eq, b__law_joins_told, ap_var, setSl_ok, e0, q1, q2, q3, e1, hlo, e2, hhi, e3, e4, e5, wb4]
end K09
namespace K09
open PySem Ow
theorem read_one {X Y : D} {n : Nat} {ws : List Int} {own : Int} (h0 : fIx X (.int 0) = some (.pu (.int n))) {m : Nat} (hm : m = ws.length + 1) (hl : fLen X = some m) (hx : ∀ i : Nat, n = i → i < ws.length → fIx X (.int (1 + (i : Int))) = some (.pu (.int (ws.getD i 0)))) :
    ∃ o, g_word_value [.pu (.str "read"), .pu X, .pu Y, .pu (.int own)] = .ret (.pu (.int (ws.getD n 0))) o := by
  refine ⟨[.pu (.str "read"), .pu X, .pu Y, .pu (.int own)], ?_⟩
  by_cases h : n < ws.length
  · have h1 := hx n rfl h
    have hc : ((n : Nat) : Int) < ((m : Nat) : Int) - 1 := by omega
    generalize hv : ws.getD n 0 = v at h1 ⊢
    generalize hL : ((m : Nat) : Int) = L at hc
    generalize hN : ((n : Nat) : Int) = N at *
    simp [g_word_value, fnOf_eq, b_word_value, ap_var, setSl_ok, h0, hl, hL, hc, h1]
  · have hc : ¬ ((n : Nat) : Int) < ((m : Nat) : Int) - 1 := by omega
    have hv : ws.getD n 0 = 0 := by simp [List.getElem?_eq_none (by omega : ws.length ≤ n)]
    rw [hv]
    generalize hL : ((m : Nat) : Int) = L at hc
    generalize hN : ((n : Nat) : Int) = N at *
    simp [g_word_value, fnOf_eq, b_word_value, ap_var, setSl_ok, h0, hl, hL, hc]
theorem tells_read (n : Nat) (ws ys : List Int) (own : Int) : Tells (.str "read") ((n : Int) :: ws) ys own (ws.getD n 0) := by
  have at_ : ∀ i : Nat, i < ws.length → L2.atI (((n : Int) :: ws).map ni) (1 + (i : Int)) = some (.int (ws.getD i 0)) := fun i hi => by
    rw [show (1 + (i : Int)) = ((i + 1 : Nat) : Int) by omega, atI_cast, List.map_cons, List.getElem?_cons_succ, List.getElem?_map, List.getElem?_eq_getElem hi]
    simp [ni, hi]
  constructor
  · exact read_one (m := ws.length + 1) (by rw [ix_t, atI_0]; rfl) rfl (by rw [f_lenT, List.length_map]; rfl) fun i _ hi => by rw [ix_t, at_ i hi]; rfl
  · exact read_one (m := ws.length + 1) (by rw [ix_l, atI_0]; rfl) rfl (by rw [f_lenL, List.length_map]; rfl) fun i _ hi => by rw [ix_l, at_ i hi]; rfl
end K09
namespace K09
open PySem Ow
theorem words_lc {w : Nat} (h1 : 1 ≤ w) (hw : w ≤ 60) {n : Nat} {ds : List D} (h : DOK ds) {s1 s2 s5 s6 : Sl} : ∃ (ws : List Int) (ds' : List D), DOK ds' ∧ ws.length = n ∧ (∀ x ∈ ws, In w x) ∧
    lcL [7] (gNm 7) oYes (oFrz (oCall g__law_edge_word (oCons (oVar 0) (oCons (oPu (oKeep (oVar 3))) oNil)))) (rangeD 0 n) [.ow true (.li ds), s1, s2, .pu (.int w), .no, s5, s6, .no] = .ok (ws.map ni) [.ow true (.li ds'), s1, s2, .pu (.int w), .no, s5, s6, .no] := by
  obtain ⟨ys, ρ', e, ⟨ds', hd', rfl⟩, hl, hy⟩ := lcL_inv (vs := [7]) (g := gNm 7) (oe := oFrz (oCall g__law_edge_word (oCons (oVar 0) (oCons (oPu (oKeep (oVar 3))) oNil)))) (P := fun y => ∃ x : Int, y = ni x ∧ In w x)
    (fun ρ => ∃ ds, DOK ds ∧ ρ = [.ow true (.li ds), s1, s2, .pu (.int w), .no, s5, s6, .no]) (ds := rangeD 0 n) (ρ := [.ow true (.li ds), s1, s2, .pu (.int w), .no, s5, s6, .no]) (by
      rintro d _ ρ ⟨ds, hd, rfl⟩
      obtain ⟨a, ds2, ha, hd2, e⟩ := edge hd h1 hw
      exact ⟨.int a, [.ow true (.li ds), s1, s2, .pu (.int w), .no, s5, s6, .pu d], [.ow true (.li ds2), s1, s2, .pu (.int w), .no, s5, s6, .pu d], by simp [setSl_ok], by simp [ap_var, e], ⟨a, rfl, ha⟩, ds2, hd2, rfl⟩) ⟨ds, h, rfl⟩
  have : ∀ ys : List D, (∀ y ∈ ys, ∃ x : Int, y = ni x ∧ In w x) → ∃ ws : List Int, ys = ws.map ni ∧ ∀ x ∈ ws, In w x := by
    intro ys
    induction ys with
    | nil => intro _; exact ⟨[], rfl, fun x hx => by cases hx⟩
    | cons y ys ih =>
      intro h
      obtain ⟨x, rfl, hx⟩ := h y List.mem_cons_self
      obtain ⟨ws, rfl, hws⟩ := ih fun z hz => h z (List.mem_cons_of_mem _ hz)
      refine ⟨x :: ws, rfl, fun z hz => ?_⟩
      rcases List.mem_cons.mp hz with rfl | hz
      · exact hx
      · exact hws z hz
  obtain ⟨ws, rfl, hws⟩ := this ys hy
  rw [List.length_map, rangeD_length] at hl
  exact ⟨ws, ds', hd', hl, hws, e⟩
end K09
namespace K09
open PySem Ow
noncomputable def bR : Os := (oSeq (oSet 6 (oIf (oTst (oBin fLt (oVar 5) (oVar 1))) (oBin fIx (oVar 4) (oVar 5)) (oRes (oC (.int 0)))))
 (oIfS (oNot (oTst (oCall g__law_told_twice (oCons (oPu (oC (.str "read"))) (oCons (oPu (oFrz (oBin fAdd (oPu (oFrz (oLst (oCons (oKeep (oVar 5)) oNil)))) (oVar 4)))) (oCons (oPu (oFrz (oBin fAdd (oPu (oFrz (oLst (oCons (oKeep (oVar 2)) oNil)))) (oPu (oFrz (oBin fMulY (oPu (oFrz (oLst (oCons (oKeep (oVar 3)) oNil)))) (oVar 1))))))) (oCons (oPu (oKeep (oVar 3))) (oCons (oPu (oKeep (oVar 6))) oNil))))))))
 (oRet (oRes (oC (.bool false))))
 oNext))
theorem mul_w {c : Nat} (hc : c ≤ 100) (W : Int) : fMulX (.list [.int W]) (.int (c : Int)) = some (.nw (.li ((List.replicate c W).map ni))) := by
  show fMul (.list [.int W]) (.int (c : Int)) = _
  unfold fMul
  dsimp only
  rw [if_pos ⟨by omega, by simp; omega, by rw [Int.natAbs_natCast]; omega⟩]
  have : ∀ k : Nat, (List.replicate k [PyData.int W]).flatten = (List.replicate k W).map ni := fun k => by
    induction k with
    | zero => rfl
    | succ k ih => rw [List.replicate_succ, List.flatten_cons, ih]; rfl
  rw [Int.toNat_natCast, this]
theorem rBody {c : Nat} (hc : c ≤ 100) {ws : List Int} (hl : ws.length = c) {n : Nat} {wide W : Int} {s0 k6 : Sl} (q6 : okS (some k6) = true) : ∃ x6, bR [s0, .pu (.int c), .pu (.int wide), .pu (.int W), .ow false (.li (ws.map ni)), .pu (.int n), k6, .no] = .nx [s0, .pu (.int c), .pu (.int wide), .pu (.int W), .ow false (.li (ws.map ni)), .pu (.int n), .pu x6, .no] := by
  obtain ⟨o, e⟩ := twice_ok (X := .list (((n : Int) :: ws).map ni)) (Y := .list ((wide :: List.replicate c W).map ni)) (.inr rfl) (.inr rfl) (tells_read n ws (wide :: List.replicate c W) W)
  have hm := mul_w hc W
  have hlen : 1 + (ws.map ni).length ≤ 16000000 := by rw [List.length_map]; omega
  have hlen2 : 1 + ((List.replicate c W).map ni).length ≤ 16000000 := by rw [List.length_map, List.length_replicate]; omega
  have e' : g__law_told_twice [.pu (.str "read"), .pu (.list (.int n :: ws.map ni)), .pu (.list (.int wide :: (List.replicate c W).map ni)), .pu (.int W), .pu (.int (ws.getD n 0))] = .ret (.pu (.bool true)) o := e
  refine ⟨.int (ws.getD n 0), ?_⟩
  by_cases h : n < c
  · have hn : ((n : Nat) : Int) < ((c : Nat) : Int) := by omega
    have hx : fIx (.list (ws.map ni)) (.int n) = some (.pu (.int (ws.getD n 0))) := by
      rw [ix_l, atI_cast, List.getElem?_map, List.getElem?_eq_getElem (by omega)]
      simp [ni, show n < ws.length by omega]
    generalize hv : ws.getD n 0 = v at *
    generalize hN : ((n : Nat) : Int) = N at *
    generalize hC : ((c : Nat) : Int) = C at *
    simp [-ix_l, -List.map_replicate, -List.length_map, bR, ap_var, setSl_ok, hn, bin1_eq, hx, q6, hlen, hlen2, hm, e', wb5]
  · have hn : ¬ ((n : Nat) : Int) < ((c : Nat) : Int) := by omega
    have hv : ws.getD n 0 = 0 := by simp [List.getElem?_eq_none (by omega : ws.length ≤ n)]
    rw [hv] at e' ⊢
    generalize hN : ((n : Nat) : Int) = N at *
    generalize hC : ((c : Nat) : Int) = C at *
    simp [-ix_l, -List.map_replicate, -List.length_map, bR, ap_var, setSl_ok, hn, bin1_eq, q6, hlen, hlen2, hm, e', wb5]
theorem address_ok (c : Nat) (hc : c ≤ 8) : ∃ wide : Nat, wide ≤ 3 ∧ g__law_address [.pu (.int c)] = .ret (.pu (.int wide)) [.pu (.int c)] := by
  by_cases h1 : ((c : Nat) : Int) < 3
  · exact ⟨1, by decide, by simp [g__law_address, fnOf_eq, b__law_address, ap_var, h1]⟩
  · by_cases h2 : ((c : Nat) : Int) < 5
    · exact ⟨2, by decide, by simp [g__law_address, fnOf_eq, b__law_address, ap_var, h1, h2]⟩
    · exact ⟨3, by decide, by simp [g__law_address, fnOf_eq, b__law_address, ap_var, h1, h2]⟩
theorem rLoop {c : Nat} (hc : c ≤ 100) {ws : List Int} (hl : ws.length = c) {wide : Nat} (hw : wide ≤ 8) {W : Int} {s0 : Sl} : ∃ k5 k6, forL (gNm 5) bR (rangeD 0 (2 ^ wide)) [s0, .pu (.int c), .pu (.int wide), .pu (.int W), .ow false (.li (ws.map ni)), .no, .no, .no] = .nx [s0, .pu (.int c), .pu (.int wide), .pu (.int W), .ow false (.li (ws.map ni)), k5, k6, .no] := by
  obtain ⟨ρ', e, k5, k6, rfl, _⟩ := forL_all (g := gNm 5) (b := bR) (fun ρ => ∃ k5 k6, ρ = [s0, .pu (.int c), .pu (.int wide), .pu (.int W), .ow false (.li (ws.map ni)), k5, k6, .no] ∧ okS (some k5) = true ∧ okS (some k6) = true) (ds := rangeD 0 (2 ^ wide)) (ρ := [s0, .pu (.int c), .pu (.int wide), .pu (.int W), .ow false (.li (ws.map ni)), .no, .no, .no]) (by
    rintro d hd ρ ⟨k5, k6, rfl, q5, q6⟩
    rw [rangeD_map] at hd
    obtain ⟨n, _, rfl⟩ := List.mem_map.mp hd
    obtain ⟨x6, e⟩ := rBody hc hl (n := n) (wide := wide) (W := W) (s0 := s0) q6
    exact ⟨[s0, .pu (.int c), .pu (.int wide), .pu (.int W), .ow false (.li (ws.map ni)), .pu (.int n), k6, .no], _, by simp [setSl_ok, q5], e, _, _, rfl, rfl, rfl⟩) ⟨_, _, rfl, rfl, rfl⟩
  exact ⟨k5, k6, e⟩
theorem reads_told {ds : List D} (h : DOK ds) : ∃ ds', DOK ds' ∧ g__law_reads_told [.ow true (.li ds)] = .ret (.pu (.bool true)) [.ow true (.li ds')] := by
  obtain ⟨r, ds1, hd1, r0, r1, e1⟩ := draw h (m := 8) (by decide) (by decide)
  obtain ⟨c, hc⟩ : ∃ c : Nat, (1 + r : Int) = c := ⟨(1 + r).toNat, by omega⟩
  obtain ⟨wide, hw, e2⟩ := address_ok c (by omega)
  obtain ⟨t, ds2, hd2, t0, t1, e3⟩ := draw hd1 (m := 8) (by decide) (by decide)
  obtain ⟨w, hwt⟩ : ∃ w : Nat, (1 + t : Int) = w := ⟨(1 + t).toNat, by omega⟩
  obtain ⟨ws, ds3, hd3, hl, _, e4⟩ := words_lc (w := w) (by omega) (by omega) (n := c) hd2 (s1 := .pu (.int c)) (s2 := .pu (.int wide)) (s5 := .no) (s6 := .no)
  obtain ⟨k5, k6, e5⟩ := rLoop (c := c) (by omega) hl (wide := wide) (by omega) (W := w) (s0 := .ow true (.li ds3))
  have hlen : (rangeD 0 c).length ≤ 16000000 := by rw [rangeD_length]; omega
  have hrg := fun ρ => rg1_nat (n := c) (by omega) ρ
  refine ⟨ds3, hd3, ?_⟩
  unfold bR at e5
  simp [-rg1_eq, -f_shl, g__law_reads_told, fnOf_eq, b__law_reads_told, ap_var, setSl_ok, e1, hc, e2, e3, hwt, hrg, lc1_eq, okW, loose, hlen, wipeR, restR, lcE, e4, shl_ok (show wide ≤ 60 by omega), rg_pow (show wide ≤ 8 by omega), e5, wb1]
end K09
namespace K09
open PySem Ow
/-- conditions and words side by side, and the last word -/
def il : List Int → List Int → Int → List Int
  | c :: cs, w :: ws, z => c :: w :: il cs ws z
  | _, _, z => [z]
def fv : List Int → List Int → Int → Int
  | c :: cs, w :: ws, z => if c = 1 then w else fv cs ws z
  | _, _, z => z
theorem il_len : ∀ (cs ws : List Int) (z : Int), cs.length = ws.length → (il cs ws z).length = 2 * cs.length + 1
  | [], [], z, _ => rfl
  | c :: cs, w :: ws, z, h => by
    show (il cs ws z).length + 1 + 1 = 2 * (cs.length + 1) + 1
    rw [il_len cs ws z (Nat.succ.inj h)]
    omega
theorem il_get0 : ∀ (cs ws : List Int) (z : Int) (i : Nat), cs.length = ws.length → i < cs.length → (il cs ws z)[2 * i]? = cs[i]? ∧ (il cs ws z)[2 * i + 1]? = ws[i]?
  | [], _, _, i, _, h => absurd h (Nat.not_lt_zero _)
  | c :: cs, w :: ws, z, 0, _, _ => ⟨rfl, rfl⟩
  | c :: cs, w :: ws, z, i + 1, h, hi => by
    have ih := il_get0 cs ws z i (Nat.succ.inj h) (Nat.lt_of_succ_lt_succ hi)
    rw [show 2 * (i + 1) = (2 * i + 1) + 1 by omega]
    show (il cs ws z)[2 * i]? = cs[i]? ∧ (il cs ws z)[2 * i + 1]? = ws[i]?
    exact ih
theorem il_last : ∀ (cs ws : List Int) (z : Int), cs.length = ws.length → (il cs ws z)[2 * cs.length]? = some z
  | [], [], z, _ => rfl
  | c :: cs, w :: ws, z, h => by
    have ih := il_last cs ws z (Nat.succ.inj h)
    rw [show 2 * (c :: cs).length = (2 * cs.length + 1) + 1 by rw [List.length_cons]; omega]
    exact ih
theorem rg3_two {m : Nat} (hm : m ≤ 40) (ρ : Rho) : rg3 [.int 0, .int ((2 * m : Nat) : Int), .int 2] ρ = .ok ((List.range m).map fun i => .int ((2 * i : Nat) : Int)) ρ := by
  have h : ∀ m : Nat, m < 41 → (Builtin.Range.small 0 ((2 * m : Nat) : Int) 2 = true ∧ Builtin.Range.rangeSize 0 ((2 * m : Nat) : Int) 2 = m) := by decide +kernel
  obtain ⟨h1, h2⟩ := h m (by omega)
  unfold rg3
  dsimp only
  rw [if_pos ⟨by decide, by decide, h1, by rw [h2]; omega⟩]
  unfold rgN rangeC
  rw [h2]
  have e : ((List.range ((m : Int)).toNat).map fun i => PyData.int (0 + ((i : Nat) : Int) * 2)) = (List.range m).map fun i => .int ((2 * i : Nat) : Int) := by
    rw [Int.toNat_natCast]
    refine List.map_congr_left fun i _ => ?_
    rw [show (0 : Int) + ((i : Nat) : Int) * 2 = ((2 * i : Nat) : Int) by omega]
  rw [e]
noncomputable def bF : Os := oIfS (oTst (oBin fEq (oPu (oFrz (oBin fIx (oVar 1) (oVar 4)))) (oPu (oC (.int 1)))))
 (oRet (oBin fIx (oVar 1) (oPu (oFrz (oBin fAdd (oVar 4) (oPu (oC (.int 1))))))))
 oNext
/-- the walk from place k on -/
theorem fLoop {X : D} {cs ws : List Int} {z : Int} (hl : cs.length = ws.length) (hx : ∀ i : Nat, i < cs.length → fIx X (.int ((2 * i : Nat) : Int)) = some (.pu (.int (cs.getD i 0))) ∧ fIx X (.int (((2 * i : Nat) : Int) + 1)) = some (.pu (.int (ws.getD i 0)))) {s0 s2 s3 : Sl} :
    ∀ (n k : Nat) (s4 : Sl), k + n = cs.length → okS (some s4) = true → ∃ s4', okS (some s4') = true ∧
      ((forL (gNm 4) bF ((List.range' k n).map fun i => .int ((2 * i : Nat) : Int)) [s0, .pu X, s2, s3, s4] = .nx [s0, .pu X, s2, s3, s4'] ∧ fv (cs.drop k) (ws.drop k) z = z) ∨
       forL (gNm 4) bF ((List.range' k n).map fun i => .int ((2 * i : Nat) : Int)) [s0, .pu X, s2, s3, s4] = .rt (.pu (.int (fv (cs.drop k) (ws.drop k) z))) [s0, .pu X, s2, s3, s4'])
  | 0, k, s4, hk, q4 => ⟨s4, q4, .inl ⟨rfl, by rw [List.drop_eq_nil_of_le (by omega), List.drop_eq_nil_of_le (by omega)]; rfl⟩⟩
  | n + 1, k, s4, hk, q4 => by
    obtain ⟨x1, x2⟩ := hx k (by omega)
    have hc : cs.drop k = cs.getD k 0 :: cs.drop (k + 1) := by
      rw [List.drop_eq_getElem_cons (show k < cs.length by omega)]
      simp [show k < cs.length by omega]
    have hw : ws.drop k = ws.getD k 0 :: ws.drop (k + 1) := by
      rw [List.drop_eq_getElem_cons (show k < ws.length by omega)]
      simp [show k < ws.length by omega]
    have hf : fv (cs.drop k) (ws.drop k) z = if cs.getD k 0 = 1 then ws.getD k 0 else fv (cs.drop (k + 1)) (ws.drop (k + 1)) z := by rw [hc, hw]; rfl
    rw [hf, List.range'_succ, List.map_cons]
    generalize hC : cs.getD k 0 = C at x1 ⊢
    generalize hW : ws.getD k 0 = W at x2 ⊢
    by_cases h1 : C = 1
    · refine ⟨.pu (.int ((2 * k : Nat) : Int)), rfl, .inr ?_⟩
      rw [if_pos h1]
      generalize hN : ((2 * k : Nat) : Int) = N at *
      have step : bF [s0, .pu X, s2, s3, .pu (.int N)] = .rt (.pu (.int W)) [s0, .pu X, s2, s3, .pu (.int N)] := by
        simp [bF, ap_var, x1, eqInt, h1, x2]
      rw [forL_cons]
      simp [setSl_ok, q4, step]
    · obtain ⟨s4', r4, ih⟩ := fLoop (z := z) hl hx (s0 := s0) (s2 := s2) (s3 := s3) n (k + 1) (.pu (.int ((2 * k : Nat) : Int))) (by omega) rfl
      refine ⟨s4', r4, ?_⟩
      rw [if_neg h1]
      generalize hN : ((2 * k : Nat) : Int) = N at *
      have step : bF [s0, .pu X, s2, s3, .pu (.int N)] = .nx [s0, .pu X, s2, s3, .pu (.int N)] := by
        simp [bF, ap_var, x1, eqInt, h1]
      have e : ∀ (D' : List D), forL (gNm 4) bF (.int N :: D') [s0, .pu X, s2, s3, s4] = forL (gNm 4) bF D' [s0, .pu X, s2, s3, .pu (.int N)] := fun D' => by
        rw [forL_cons]
        simp [setSl_ok, q4, step]
      rw [e]
      exact ih
end K09
namespace K09
open PySem Ow
theorem first_one {X Y : D} {cs ws : List Int} {z own : Int} (hl : cs.length = ws.length) (hm : cs.length ≤ 40) (hlen : fLen X = some (2 * cs.length + 1))
    (hx : ∀ i : Nat, i < cs.length → fIx X (.int ((2 * i : Nat) : Int)) = some (.pu (.int (cs.getD i 0))) ∧ fIx X (.int (((2 * i : Nat) : Int) + 1)) = some (.pu (.int (ws.getD i 0))))
    (hz : fIx X (.int (-1)) = some (.pu (.int z))) : ∃ o, g_word_value [.pu (.str "first"), .pu X, .pu Y, .pu (.int own)] = .ret (.pu (.int (fv cs ws z))) o := by
  obtain ⟨s4, _, h⟩ := fLoop (z := z) hl hx (s0 := .pu (.str "first")) (s2 := .pu Y) (s3 := .pu (.int own)) cs.length 0 .no (by omega) rfl
  rw [List.drop_zero, List.drop_zero, ← List.range_eq_range'] at h
  have hr := fun ρ => rg3_two hm ρ
  have hsub : ((2 * cs.length + 1 : Nat) : Int) - 1 = ((2 * cs.length : Nat) : Int) := by omega
  generalize hM : 2 * cs.length + 1 = m at hlen hsub
  generalize hN : ((2 * cs.length : Nat) : Int) = N at hr hsub
  unfold bF at h
  generalize ((List.range cs.length).map fun i => PyData.int ((2 * i : Nat) : Int)) = LL at hr h
  have eR : oRange3 (oCons (oC (.int 0)) (oCons (oFrz (oBin fSub (oPu (oFrz (oLen (oVar 1)))) (oPu (oC (.int 1))))) (oCons (oC (.int 2)) oNil))) [.pu (.str "first"), .pu X, .pu Y, .pu (.int own), .no] = .ok LL [.pu (.str "first"), .pu X, .pu Y, .pu (.int own), .no] := by
    have a1 : (oCons (oC (.int 0)) (oCons (oFrz (oBin fSub (oPu (oFrz (oLen (oVar 1)))) (oPu (oC (.int 1))))) (oCons (oC (.int 2)) oNil))) [.pu (.str "first"), .pu X, .pu Y, .pu (.int own), .no] = .ok [.int 0, .int N, .int 2] [.pu (.str "first"), .pu X, .pu Y, .pu (.int own), .no] := by
      simp [ap_var, hlen, hsub]
    rw [ap_range3, a1, M.bind_ok]
    exact hr _
  clear hr
  rcases h with ⟨h1, h2⟩ | h1
  · refine ⟨[.pu (.str "first"), .pu X, .pu Y, .pu (.int own)], ?_⟩
    rw [h2]
    simp [g_word_value, fnOf_eq, b_word_value, ap_var, setSl_ok, -ap_range3, eR, h1, hz]
  · refine ⟨[.pu (.str "first"), .pu X, .pu Y, .pu (.int own)], ?_⟩
    simp [g_word_value, fnOf_eq, b_word_value, ap_var, setSl_ok, -ap_range3, eR, h1]
theorem tells_first {cs ws : List Int} (hl : cs.length = ws.length) (hm : cs.length ≤ 40) (z : Int) (ys : List Int) (own : Int) : Tells (.str "first") (il cs ws z) ys own (fv cs ws z) := by
  have hlen := il_len cs ws z hl
  have a0 : ∀ i : Nat, i < cs.length → L2.atI ((il cs ws z).map ni) ((2 * i : Nat) : Int) = some (.int (cs.getD i 0)) := fun i hi => by
    rw [atI_cast, List.getElem?_map, (il_get0 cs ws z i hl hi).1]
    simp [ni, hi]
  have a1 : ∀ i : Nat, i < cs.length → L2.atI ((il cs ws z).map ni) (((2 * i : Nat) : Int) + 1) = some (.int (ws.getD i 0)) := fun i hi => by
    rw [show ((2 * i : Nat) : Int) + 1 = ((2 * i + 1 : Nat) : Int) by omega, atI_cast, List.getElem?_map, (il_get0 cs ws z i hl hi).2]
    simp [ni, show i < ws.length by omega]
  have az : L2.atI ((il cs ws z).map ni) (-1) = some (.int z) := by
    unfold L2.atI L2.ixN
    rw [if_neg (by decide), if_pos (by rw [List.length_map, hlen]; omega)]
    rw [List.length_map, hlen]
    show ((il cs ws z).map ni)[_]? = _
    rw [show ((-1 : Int) + ((2 * cs.length + 1 : Nat) : Int)).toNat = 2 * cs.length by omega, List.getElem?_map, il_last cs ws z hl]
    rfl
  constructor
  · exact first_one hl hm (by rw [f_lenT, List.length_map, hlen]) (fun i hi => ⟨by rw [ix_t, a0 i hi]; rfl, by rw [ix_t, a1 i hi]; rfl⟩) (by rw [ix_t, az]; rfl)
  · exact first_one hl hm (by rw [f_lenL, List.length_map, hlen]) (fun i hi => ⟨by rw [ix_l, a0 i hi]; rfl, by rw [ix_l, a1 i hi]; rfl⟩) (by rw [ix_l, az]; rfl)
end K09
namespace K09
open PySem Ow
/-- a row of conditions -/
def RowK (n : Nat) (d : D) : Prop := ∃ cs : List Int, d = .tuple (cs.map ni) ∧ cs.length = n
theorem all_bits_ok {n : Nat} (hn : n ≤ 8) : ∃ (rows : List D) (o : List Sl), (∀ r ∈ rows, RowK n r) ∧ rows.length ≤ 16000000 ∧ g__law_all_bits [.pu (.int n)] = .ret (.nw (.li rows)) o := by
  obtain ⟨rows, ρ', e, rfl, hl, hr⟩ := lcL_inv (vs := [1]) (g := gNm 1) (oe := oFrz (oCall g__law_bits (oCons (oPu (oKeep (oVar 1))) (oCons (oPu (oKeep (oVar 0))) oNil)))) (P := RowK n) (fun ρ => ρ = [.pu (.int n), .no]) (ds := rangeD 0 (2 ^ n)) (ρ := [.pu (.int n), .no]) (by
    rintro d hd ρ rfl
    obtain ⟨b, rfl, hb⟩ := range_in hd
    have e := bits_ok (w := n) (by omega) b
    exact ⟨.tuple ((bs n b).map ni), [.pu (.int n), .pu (.int b)], [.pu (.int n), .pu (.int b)], by simp [setSl_ok], by simp [ap_var, e], ⟨bs n b, rfl, by simp [bs]⟩, rfl⟩) rfl
  have hlen : (rangeD 0 (2 ^ n)).length ≤ 16000000 := by
    have hle : (2 : Nat) ^ n ≤ 2 ^ 8 := Nat.pow_le_pow_right (by decide) hn
    rw [rangeD_length]; omega
  refine ⟨rows, [.pu (.int n)], hr, by omega, ?_⟩
  simp [-rg1_eq, -f_shl, g__law_all_bits, fnOf_eq, b__law_all_bits, ap_var, shl_ok (show n ≤ 60 by omega), rg_pow hn, lc1_eq, okW, loose, hlen, wipeR, restR, lcE, e]
noncomputable def bK : Os := (oSeq (oSet 4 (oCall g__law_draw (oCons (oVar 0) (oCons (oPu (oFrz (oBin fAdd (oVar 1) (oPu (oC (.int 1)))))) oNil))))
 (oDrop (oPu (oMutK 2 fAppend (oCons (oFrz (oCB fTuple (oCons (oPu (oFrz (oLc [5] (oRange (oCons (oKeep (oVar 1)) oNil)) (gNm 5) oYes (oFrz (oCB fIntX (oCons (oPu (oOrV (oFrz (oBin fEq (oVar 5) (oVar 4))) (oAndV (oFrz (oBin fGt (oVar 5) (oVar 4))) (oFrz (oBin fEq (oPu (oFrz (oCall g__law_draw (oCons (oVar 0) (oCons (oPu (oC (.int 2))) oNil))))) (oPu (oC (.int 1)))))))) oNil)))))) oNil))) oNil)))))
theorem kRow {n : Nat} {p : Int} {ds : List D} (h : DOK ds) {s2 s3 : Sl} : ∃ (cs : List Int) (ds' : List D), DOK ds' ∧ cs.length = n ∧
    lcL [5] (gNm 5) oYes (oFrz (oCB fIntX (oCons (oPu (oOrV (oFrz (oBin fEq (oVar 5) (oVar 4))) (oAndV (oFrz (oBin fGt (oVar 5) (oVar 4))) (oFrz (oBin fEq (oPu (oFrz (oCall g__law_draw (oCons (oVar 0) (oCons (oPu (oC (.int 2))) oNil))))) (oPu (oC (.int 1)))))))) oNil))) (rangeD 0 n) [.ow true (.li ds), .pu (.int n), s2, s3, .pu (.int p), .no] = .ok (cs.map ni) [.ow true (.li ds'), .pu (.int n), s2, s3, .pu (.int p), .no] := by
  obtain ⟨ys, ρ', e, ⟨ds', hd', rfl⟩, hl, hy⟩ := lcL_inv (vs := [5]) (g := gNm 5) (oe := oFrz (oCB fIntX (oCons (oPu (oOrV (oFrz (oBin fEq (oVar 5) (oVar 4))) (oAndV (oFrz (oBin fGt (oVar 5) (oVar 4))) (oFrz (oBin fEq (oPu (oFrz (oCall g__law_draw (oCons (oVar 0) (oCons (oPu (oC (.int 2))) oNil))))) (oPu (oC (.int 1)))))))) oNil))) (P := fun y => ∃ x : Int, y = ni x)
    (fun ρ => ∃ ds, DOK ds ∧ ρ = [.ow true (.li ds), .pu (.int n), s2, s3, .pu (.int p), .no]) (ds := rangeD 0 n) (ρ := [.ow true (.li ds), .pu (.int n), s2, s3, .pu (.int p), .no]) (by
      rintro d hd ρ ⟨ds, hd, rfl⟩
      rename_i hd0
      rw [rangeD_map] at hd0
      obtain ⟨j, _, rfl⟩ := List.mem_map.mp hd0
      generalize ((j : Nat) : Int) = J
      generalize ((n : Nat) : Int) = N
      by_cases h1 : J = p
      · exact ⟨.int 1, [.ow true (.li ds), .pu (.int N), s2, s3, .pu (.int p), .pu (.int J)], [.ow true (.li ds), .pu (.int N), s2, s3, .pu (.int p), .pu (.int J)], by simp [setSl_ok], by simp [ap_var, bin1_eq, eqInt, h1], ⟨1, rfl⟩, ds, hd, rfl⟩
      · by_cases h2 : p < J
        · obtain ⟨r, ds2, hd2, _, _, e⟩ := draw hd (m := 2) (by decide) (by decide)
          exact ⟨.int (if r = 1 then 1 else 0), [.ow true (.li ds), .pu (.int N), s2, s3, .pu (.int p), .pu (.int J)], [.ow true (.li ds2), .pu (.int N), s2, s3, .pu (.int p), .pu (.int J)], by simp [setSl_ok], by simp [ap_var, bin1_eq, eqInt, h1, h2, e], ⟨_, rfl⟩, ds2, hd2, rfl⟩
        · exact ⟨.int 0, [.ow true (.li ds), .pu (.int N), s2, s3, .pu (.int p), .pu (.int J)], [.ow true (.li ds), .pu (.int N), s2, s3, .pu (.int p), .pu (.int J)], by simp [setSl_ok], by simp [ap_var, bin1_eq, eqInt, h1, h2], ⟨0, rfl⟩, ds, hd, rfl⟩) ⟨ds, h, rfl⟩
  have : ∀ ys : List D, (∀ y ∈ ys, ∃ x : Int, y = ni x) → ∃ ws : List Int, ys = ws.map ni := by
    intro ys
    induction ys with
    | nil => intro _; exact ⟨[], rfl⟩
    | cons y ys ih =>
      intro h
      obtain ⟨x, rfl⟩ := h y List.mem_cons_self
      obtain ⟨ws, rfl⟩ := ih fun z hz => h z (List.mem_cons_of_mem _ hz)
      exact ⟨x :: ws, rfl⟩
  obtain ⟨cs, rfl⟩ := this ys hy
  rw [List.length_map, rangeD_length] at hl
  exact ⟨cs, ds', hd', hl, e⟩
theorem kBody {n : Nat} (hn : n ≤ 40) {ds : List D} (h : DOK ds) {rows : List D} (hr : ∀ r ∈ rows, RowK n r) (hrl : rows.length < 1000) {k3 s4 : Sl} (q4 : okS (some s4) = true) : ∃ ds' rows' s4', DOK ds' ∧ (∀ r ∈ rows', RowK n r) ∧ rows'.length = rows.length + 1 ∧ okS (some s4') = true ∧
    bK [.ow true (.li ds), .pu (.int n), .ow false (.li rows), k3, s4, .no] = .nx [.ow true (.li ds'), .pu (.int n), .ow false (.li rows'), k3, s4', .no] := by
  obtain ⟨r, ds1, hd1, r0, r1, e1⟩ := draw h (m := (n : Int) + 1) (by omega) (by omega)
  obtain ⟨cs, ds2, hd2, hl, e2⟩ := kRow (n := n) (p := r) hd1 (s2 := .ow false (.li rows)) (s3 := k3)
  have hlen : (rangeD 0 n).length ≤ 16000000 := by rw [rangeD_length]; omega
  have hrg := fun ρ => rg1_nat (n := n) (by omega) ρ
  have hk : rows.length < 16000000 := by omega
  refine ⟨ds2, rows ++ [.tuple (cs.map ni)], .pu (.int r), hd2, ?_, by simp, rfl, ?_⟩
  · intro x hx
    rcases List.mem_append.mp hx with hx | hx
    · exact hr x hx
    · rw [List.mem_singleton] at hx
      exact ⟨cs, hx, hl⟩
  · simp [-rg1_eq, bK, ap_var, setSl_ok, e1, q4, hrg, lc1_eq, okW, loose, hlen, wipeR, restR, lcE, e2, hk]
theorem conditions_ok {n : Nat} (hn : n ≤ 40) {ds : List D} (h : DOK ds) : ∃ ds' rows, DOK ds' ∧ (∀ r ∈ rows, RowK n r) ∧ rows.length ≤ 16000000 ∧ g__law_conditions [.ow true (.li ds), .pu (.int n)] = .ret (.nw (.li rows)) [.ow true (.li ds'), .pu (.int n)] := by
  by_cases h4 : ((n : Nat) : Int) < 4
  · obtain ⟨rows, o, hr, hl, e⟩ := all_bits_ok (n := n) (by omega)
    refine ⟨ds, rows, h, hr, hl, ?_⟩
    generalize hN : ((n : Nat) : Int) = N at *
    simp [g__law_conditions, fnOf_eq, b__law_conditions, ap_var, h4, e, wb1]
  · obtain ⟨ρ', e, ds', rows, k3, s4, rfl, hd', hr, hl, q3, q4⟩ := forL_inv (g := gNm 3) (b := bK) (fun l ρ => ∃ ds rows k3 s4, ρ = [.ow true (.li ds), .pu (.int n), .ow false (.li rows), k3, s4, .no] ∧ DOK ds ∧ (∀ r ∈ rows, RowK n r) ∧ rows.length + l.length = 8 ∧ okS (some k3) = true ∧ okS (some s4) = true) (ds := rangeD 0 8) (ρ := [.ow true (.li ds), .pu (.int n), .ow false (.li []), .no, .no, .no]) (by
      rintro d l ρ _ ⟨ds, rows, k3, s4, rfl, hd, hr, hl, q3, q4⟩
      rw [List.length_cons] at hl
      obtain ⟨ds', rows', s4', hd', hr', hl', q4', e⟩ := kBody hn hd hr (by omega) (k3 := .pu d) q4
      exact ⟨[.ow true (.li ds), .pu (.int n), .ow false (.li rows), .pu d, s4, .no], _, by simp [setSl_ok, q3], .inl e, ds', rows', _, s4', rfl, hd', hr', by omega, rfl, q4'⟩) ⟨ds, [], _, _, rfl, h, by simp, by rw [rangeD_length]; rfl, rfl, rfl⟩
    refine ⟨ds', rows, hd', hr, by rw [List.length_nil] at hl; omega, ?_⟩
    unfold bK at e
    have hrg := fun ρ => rg1_nat (n := 8) (by decide) ρ
    generalize hN : ((n : Nat) : Int) = N at *
    simp [-rg1_eq, show ∀ ρ, rg1 [.int 8] ρ = .ok (rangeD 0 8) ρ from hrg, g__law_conditions, fnOf_eq, b__law_conditions, ap_var, ap_retV, setSl_ok, h4, e]
end K09
namespace K09
open PySem Ow
def iw : List Int → List Int → List Int
  | c :: cs, w :: ws => c :: w :: iw cs ws
  | _, _ => []
theorem il_iw : ∀ (cs ws : List Int) (z : Int), cs.length = ws.length → il cs ws z = iw cs ws ++ [z]
  | [], [], z, _ => rfl
  | c :: cs, w :: ws, z, h => by
    show c :: w :: il cs ws z = c :: w :: (iw cs ws ++ [z])
    rw [il_iw cs ws z (Nat.succ.inj h)]
theorem iw_len : ∀ (cs ws : List Int), (iw cs ws).length ≤ 2 * cs.length
  | [], _ => by show 0 ≤ _; omega
  | c :: cs, [] => by show 0 ≤ _; omega
  | c :: cs, w :: ws => by
    have := iw_len cs ws
    show (iw cs ws).length + 1 + 1 ≤ 2 * (cs.length + 1)
    omega
theorem iw_step : ∀ (cs ws : List Int) (k : Nat), k < cs.length → k < ws.length → iw (cs.take (k + 1)) (ws.take (k + 1)) = iw (cs.take k) (ws.take k) ++ [cs.getD k 0, ws.getD k 0]
  | [], _, k, h, _ => absurd h (Nat.not_lt_zero _)
  | c :: cs, [], k, _, h => absurd h (Nat.not_lt_zero _)
  | c :: cs, w :: ws, 0, _, _ => rfl
  | c :: cs, w :: ws, k + 1, h1, h2 => by
    have ih := iw_step cs ws k (Nat.lt_of_succ_lt_succ h1) (Nat.lt_of_succ_lt_succ h2)
    show c :: w :: iw (cs.take (k + 1)) (ws.take (k + 1)) = c :: w :: (iw (cs.take k) (ws.take k) ++ [cs.getD k 0, ws.getD k 0])
    rw [ih]
theorem at_map {xs : List Int} {k : Nat} (h : k < xs.length) : L2.atI (xs.map ni) ((k : Nat) : Int) = some (.int (xs.getD k 0)) := by
  rw [atI_cast, List.getElem?_map, List.getElem?_eq_getElem h]
  simp [ni, h]
theorem loose_okS {s : Sl} (h : loose (some s) = true) : okS (some s) = true := by
  cases s with
  | ow p c => cases h
  | _ => rfl
noncomputable def bX : Os := (oDrop (oPu (oMut 5 fExtend (oCons (oPu (oFrz (oLst (oCons (oFrz (oBin fIx (oVar 4) (oVar 6))) (oCons (oFrz (oBin fIx (oVar 3) (oVar 6))) oNil))))) oNil))))
theorem xLoop {cs ws : List Int} {z : Int} (hl : cs.length = ws.length) (hm : cs.length ≤ 40) {s0 s1 s2 s7 s8 : Sl} : ∀ (n k : Nat) (s6 : Sl), k + n = cs.length → loose (some s6) = true → ∃ s6', loose (some s6') = true ∧
    forL (gNm 6) bX ((List.range' k n).map fun i => .int ((i : Nat) : Int)) [s0, s1, s2, .ow false (.li ((ws ++ [z]).map ni)), .pu (.tuple (cs.map ni)), .ow false (.li ((iw (cs.take k) (ws.take k)).map ni)), s6, s7, s8] = .nx [s0, s1, s2, .ow false (.li ((ws ++ [z]).map ni)), .pu (.tuple (cs.map ni)), .ow false (.li ((iw cs ws).map ni)), s6', s7, s8]
  | 0, k, s6, hk, q6 => ⟨s6, q6, by rw [List.take_of_length_le (by omega), List.take_of_length_le (by omega)]; rfl⟩
  | n + 1, k, s6, hk, q6 => by
    have q6 := loose_okS q6
    obtain ⟨s6', r6, ih⟩ := xLoop (z := z) hl hm (s0 := s0) (s1 := s1) (s2 := s2) (s7 := s7) (s8 := s8) n (k + 1) (.pu (.int k)) (by omega) rfl
    refine ⟨s6', r6, ?_⟩
    have x1 := at_map (xs := cs) (k := k) (by omega)
    have x2 := at_map (xs := ws ++ [z]) (k := k) (by simp; omega)
    have x3 : (ws ++ [z]).getD k 0 = ws.getD k 0 := by
      rw [List.getD_eq_getElem?_getD, List.getD_eq_getElem?_getD, List.getElem?_append_left (by omega)]
    rw [x3] at x2
    have hL : (iw (cs.take k) (ws.take k)).length + 2 ≤ 16000000 := by
      have := iw_len (cs.take k) (ws.take k)
      rw [List.length_take] at this
      omega
    rw [iw_step cs ws k (by omega) (by omega)] at ih
    rw [List.range'_succ, List.map_cons, forL_cons]
    generalize hC : cs.getD k 0 = C at *
    generalize hW : ws.getD k 0 = W at *
    generalize hCs : cs.map ni = CS at *
    generalize hWs : (ws ++ [z]).map ni = WS at *
    generalize hI : iw (cs.take k) (ws.take k) = I at *
    generalize hN : ((k : Nat) : Int) = N at *
    have step : bX [s0, s1, s2, .ow false (.li WS), .pu (.tuple CS), .ow false (.li (I.map ni)), .pu (.int N), s7, s8] = .nx [s0, s1, s2, .ow false (.li WS), .pu (.tuple CS), .ow false (.li ((I ++ [C, W]).map ni)), .pu (.int N), s7, s8] := by
      simp [bX, ap_var, bin1_eq, x1, x2, hL, ni]
    simp only [gNm_eq, setSl_ok, List.getElem?_cons_succ, List.getElem?_cons_zero, q6, if_true, List.set_cons_succ, List.set_cons_zero, step]
    exact ih
theorem first_ix {cs ws : List Int} {z : Int} (hl : cs.length = ws.length) : ∀ (n k : Nat), k + n = cs.length → ∃ m : Nat,
    ((((List.range' k n).filter fun i => decide (cs.getD i 0 = 1)).map fun i => PyData.int ((i : Nat) : Int)) ++ [.int ((cs.length : Nat) : Int)])[0]? = some (.int ((m : Nat) : Int)) ∧ m < (ws ++ [z]).length ∧ (ws ++ [z]).getD m 0 = fv (cs.drop k) (ws.drop k) z
  | 0, k, hk => by
    refine ⟨cs.length, rfl, by simp; omega, ?_⟩
    rw [List.drop_eq_nil_of_le (by omega), hl]
    simp [fv]
  | n + 1, k, hk => by
    obtain ⟨m, h1, h2, h3⟩ := first_ix (z := z) hl n (k + 1) (by omega)
    have hc : cs.drop k = cs.getD k 0 :: cs.drop (k + 1) := by
      rw [List.drop_eq_getElem_cons (show k < cs.length by omega)]
      simp [show k < cs.length by omega]
    have hw : ws.drop k = ws.getD k 0 :: ws.drop (k + 1) := by
      rw [List.drop_eq_getElem_cons (show k < ws.length by omega)]
      simp [show k < ws.length by omega]
    have hf : fv (cs.drop k) (ws.drop k) z = if cs.getD k 0 = 1 then ws.getD k 0 else fv (cs.drop (k + 1)) (ws.drop (k + 1)) z := by rw [hc, hw]; rfl
    rw [hf, List.range'_succ]
    by_cases h : cs.getD k 0 = 1
    · rw [List.filter_cons_of_pos (by simpa using h), if_pos h]
      refine ⟨k, rfl, by simp; omega, ?_⟩
      rw [List.getD_eq_getElem?_getD, List.getD_eq_getElem?_getD, List.getElem?_append_left (by omega)]
    · rw [List.filter_cons_of_neg (by simpa using h), if_neg h]
      exact ⟨m, h1, h2, h3⟩
theorem mul_w2 {c : Nat} (hc : c ≤ 100) (W : Int) : ∃ zs : List Int, zs.length = 2 * c ∧ fMulX (.list [.int 1, .int W]) (.int (c : Int)) = some (.nw (.li (zs.map ni))) := by
  refine ⟨(List.replicate c [1, W]).flatten, by simp; omega, ?_⟩
  show fMul (.list [.int 1, .int W]) (.int (c : Int)) = _
  unfold fMul
  dsimp only
  rw [if_pos ⟨by omega, by simp; omega, by rw [Int.natAbs_natCast]; omega⟩]
  rw [Int.toNat_natCast, List.map_flatten, List.map_replicate]
  rfl
noncomputable def bG : Os := (oSeq (oSet 5 (oLst oNil))
 (oSeq (oFor (oRange (oCons (oKeep (oVar 1)) oNil)) (gNm 6)
 (oDrop (oPu (oMut 5 fExtend (oCons (oPu (oFrz (oLst (oCons (oFrz (oBin fIx (oVar 4) (oVar 6))) (oCons (oFrz (oBin fIx (oVar 3) (oVar 6))) oNil))))) oNil)))))
 (oSeq (oSet 7 (oBin fAdd (oPu (oFrz (oLc [6] (oRange (oCons (oKeep (oVar 1)) oNil)) (gNm 6) (oTst (oBin fEq (oPu (oFrz (oBin fIx (oVar 4) (oVar 6)))) (oPu (oC (.int 1))))) (oKeep (oVar 6))))) (oPu (oFrz (oLst (oCons (oKeep (oVar 1)) oNil))))))
 (oSeq (oSet 8 (oBin fIx (oVar 3) (oPu (oFrz (oBin fIx (oVar 7) (oPu (oC (.int 0))))))))
 (oIfS (oNot (oTst (oCall g__law_told_twice (oCons (oPu (oC (.str "first"))) (oCons (oPu (oFrz (oBin fAdd (oVar 5) (oPu (oFrz (oLst (oCons (oFrz (oBin fIx (oVar 3) (oVar 1))) oNil))))))) (oCons (oPu (oFrz (oBin fAdd (oPu (oFrz (oBin fMulY (oPu (oFrz (oLst (oCons (oC (.int 1)) (oCons (oKeep (oVar 2)) oNil))))) (oVar 1)))) (oPu (oFrz (oLst (oCons (oKeep (oVar 2)) oNil))))))) (oCons (oPu (oKeep (oVar 2))) (oCons (oPu (oKeep (oVar 8))) oNil))))))))
 (oRet (oRes (oC (.bool false))))
 oNext)))))
end K09
namespace K09
open PySem Ow
theorem gBody {n : Nat} (hn : n ≤ 40) {cs ws : List Int} {z w : Int} (hc : cs.length = n) (hw : ws.length = n) {s0 k5 k6 k7 k8 : Sl} (q5 : okS (some k5) = true) (q6 : loose (some k6) = true) (q7 : okS (some k7) = true) (q8 : okS (some k8) = true) :
    ∃ k5' k6' k7' k8', okS (some k5') = true ∧ loose (some k6') = true ∧ okS (some k7') = true ∧ okS (some k8') = true ∧
      bG [s0, .pu (.int n), .pu (.int w), .ow false (.li ((ws ++ [z]).map ni)), .pu (.tuple (cs.map ni)), k5, k6, k7, k8] = .nx [s0, .pu (.int n), .pu (.int w), .ow false (.li ((ws ++ [z]).map ni)), .pu (.tuple (cs.map ni)), k5', k6', k7', k8'] := by
  have hl : cs.length = ws.length := by omega
  have q6s := loose_okS q6
  obtain ⟨s6, r6, e1⟩ := xLoop (cs := cs) (ws := ws) (z := z) hl (by omega) (s0 := s0) (s1 := .pu (.int n)) (s2 := .pu (.int w)) (s7 := k7) (s8 := k8) n 0 k6 (by omega) q6
  rw [show (iw (cs.take 0) (ws.take 0)).map ni = [] by simp [iw], ← List.range_eq_range', ← rangeD_map] at e1
  have e2 : lcL [6] (gNm 6) (oTst (oBin fEq (oPu (oFrz (oBin fIx (oVar 4) (oVar 6)))) (oPu (oC (.int 1))))) (oKeep (oVar 6)) (rangeD 0 n) [s0, .pu (.int n), .pu (.int w), .ow false (.li ((ws ++ [z]).map ni)), .pu (.tuple (cs.map ni)), .ow false (.li ((iw cs ws).map ni)), .no, k7, k8] = .ok (((List.range n).filter fun i => decide (cs.getD i 0 = 1)).map fun i => .int ((i : Nat) : Int)) [s0, .pu (.int n), .pu (.int w), .ow false (.li ((ws ++ [z]).map ni)), .pu (.tuple (cs.map ni)), .ow false (.li ((iw cs ws).map ni)), .no, k7, k8] := by
    rw [rangeD_map]
    refine lcL_filter fun i hi => ?_
    have x1 := at_map (xs := cs) (k := i) (by rw [hc]; exact List.mem_range.mp hi)
    generalize hC : cs.getD i 0 = C at *
    generalize hCs : cs.map ni = CS at *
    generalize hN : ((i : Nat) : Int) = N at *
    exact ⟨[s0, .pu (.int n), .pu (.int w), .ow false (.li ((ws ++ [z]).map ni)), .pu (.tuple CS), .ow false (.li ((iw cs ws).map ni)), .pu (.int N), k7, k8], [s0, .pu (.int n), .pu (.int w), .ow false (.li ((ws ++ [z]).map ni)), .pu (.tuple CS), .ow false (.li ((iw cs ws).map ni)), .pu (.int N), k7, k8], by simp [setSl_ok], by simp [ap_var, bin1_eq, x1, eqInt], fun _ => ⟨[s0, .pu (.int n), .pu (.int w), .ow false (.li ((ws ++ [z]).map ni)), .pu (.tuple CS), .ow false (.li ((iw cs ws).map ni)), .pu (.int N), k7, k8], by simp [ap_var], by simp [wipeR]⟩, fun _ => by simp [wipeR]⟩
  obtain ⟨m, h7, hm, hd⟩ := first_ix (cs := cs) (ws := ws) (z := z) hl n 0 (by omega)
  rw [← List.range_eq_range', List.drop_zero, List.drop_zero] at *
  have x7 := at_map hm
  have xz := at_map (xs := ws ++ [z]) (k := n) (by simp; omega)
  rw [show (ws ++ [z]).getD n 0 = z by rw [List.getD_eq_getElem?_getD, ← hw]; simp] at xz
  rw [hd] at x7
  obtain ⟨zs, hz, hmul⟩ := mul_w2 (c := n) (by omega) w
  obtain ⟨o, e3⟩ := twice_ok (X := .list ((il cs ws z).map ni)) (Y := .list ((zs ++ [w]).map ni)) (.inr rfl) (.inr rfl) (tells_first (cs := cs) (ws := ws) hl (by omega) z (zs ++ [w]) w)
  rw [il_iw cs ws z hl, List.map_append, List.map_append] at e3
  have hI : ((iw cs ws).map ni).length + 1 ≤ 16000000 := by
    have := iw_len cs ws
    rw [List.length_map]; omega
  have hZ : (zs.map ni).length + 1 ≤ 16000000 := by rw [List.length_map]; omega
  have hF : (((List.range n).filter fun i => decide (cs.getD i 0 = 1)).map fun i => PyData.int ((i : Nat) : Int)).length + 1 ≤ 16000000 := by
    rw [List.length_map]
    have := List.length_filter_le (fun i => decide (cs.getD i 0 = 1)) (List.range n)
    rw [List.length_range] at this
    omega
  have hlen : (rangeD 0 n).length ≤ 16000000 := by rw [rangeD_length]; omega
  have hrg := fun ρ => rg1_nat (n := n) (by omega) ρ
  rw [hc] at h7
  unfold bX at e1
  have hok : okW [s0, .pu (.int n), .pu (.int w), .ow false (.li ((ws ++ [z]).map ni)), .pu (.tuple (cs.map ni)), .ow false (.li ((iw cs ws).map ni)), s6, k7, k8] [6] = true := by
    simpa [okW] using r6
  generalize ((List.range n).filter fun i => decide (cs.getD i 0 = 1)).map (fun i => PyData.int ((i : Nat) : Int)) = F at *
  generalize rangeD 0 n = RG at *
  generalize fv cs ws z = V at *
  generalize ((m : Nat) : Int) = M at *
  generalize ((n : Nat) : Int) = N at *
  generalize (iw cs ws).map ni = IM at *
  generalize (ws ++ [z]).map ni = WM at *
  generalize cs.map ni = CM at *
  generalize zs.map ni = ZM at *
  have e3' : g__law_told_twice [.pu (.str "first"), .pu (.list (IM ++ [.int z])), .pu (.list (ZM ++ [.int w])), .pu (.int w), .pu (.int V)] = .ret (.pu (.bool true)) o := e3
  have h7' : L2.atI (F ++ [.int N]) 0 = some (.int M) := by rw [atI_0]; exact h7
  refine ⟨.ow false (.li IM), s6, .ow false (.li (F ++ [.int N])), .pu (.int V), rfl, r6, rfl, rfl, ?_⟩
  simp [-rg1_eq, -atI_0, -atI_lit, bG, ap_var, setSl_ok, bin1_eq, q5, q6s, q7, q8, hrg, e1, lc1_eq, hok, hlen, wipeR, restR, lcE, e2, hF, h7', x7, xz, hI, hmul, hZ, e3', wb5]
theorem words_lc2 {w : Nat} (h1 : 1 ≤ w) (hw : w ≤ 60) {n : Nat} {ds : List D} (h : DOK ds) {s1 s3 s4 s5 s7 s8 : Sl} : ∃ (ws : List Int) (ds' : List D), DOK ds' ∧ ws.length = n ∧
    lcL [6] (gNm 6) oYes (oFrz (oCall g__law_edge_word (oCons (oVar 0) (oCons (oPu (oKeep (oVar 2))) oNil)))) (rangeD 0 n) [.ow true (.li ds), s1, .pu (.int w), s3, s4, s5, .no, s7, s8] = .ok (ws.map ni) [.ow true (.li ds'), s1, .pu (.int w), s3, s4, s5, .no, s7, s8] := by
  obtain ⟨ys, ρ', e, ⟨ds', hd', rfl⟩, hl, hy⟩ := lcL_inv (vs := [6]) (g := gNm 6) (oe := oFrz (oCall g__law_edge_word (oCons (oVar 0) (oCons (oPu (oKeep (oVar 2))) oNil)))) (P := fun y => ∃ x : Int, y = ni x)
    (fun ρ => ∃ ds, DOK ds ∧ ρ = [.ow true (.li ds), s1, .pu (.int w), s3, s4, s5, .no, s7, s8]) (ds := rangeD 0 n) (ρ := [.ow true (.li ds), s1, .pu (.int w), s3, s4, s5, .no, s7, s8]) (by
      rintro d _ ρ ⟨ds, hd, rfl⟩
      obtain ⟨a, ds2, ha, hd2, e⟩ := edge hd h1 hw
      exact ⟨.int a, [.ow true (.li ds), s1, .pu (.int w), s3, s4, s5, .pu d, s7, s8], [.ow true (.li ds2), s1, .pu (.int w), s3, s4, s5, .pu d, s7, s8], by simp [setSl_ok], by simp [ap_var, e], ⟨a, rfl⟩, ds2, hd2, rfl⟩) ⟨ds, h, rfl⟩
  have : ∀ ys : List D, (∀ y ∈ ys, ∃ x : Int, y = ni x) → ∃ ws : List Int, ys = ws.map ni := by
    intro ys
    induction ys with
    | nil => intro _; exact ⟨[], rfl⟩
    | cons y ys ih =>
      intro h
      obtain ⟨x, rfl⟩ := h y List.mem_cons_self
      obtain ⟨ws, rfl⟩ := ih fun z hz => h z (List.mem_cons_of_mem _ hz)
      exact ⟨x :: ws, rfl⟩
  obtain ⟨ws, rfl⟩ := this ys hy
  rw [List.length_map, rangeD_length] at hl
  exact ⟨ws, ds', hd', hl, e⟩
end K09
namespace K09
open PySem Ow
theorem gLoop {n : Nat} (hn : n ≤ 40) {ws : List Int} {z w : Int} (hw : ws.length = n) {s0 : Sl} {rows : List D} (hr : ∀ r ∈ rows, RowK n r) : ∃ k4 k5 k6 k7 k8,
    forL (gNm 4) bG rows [s0, .pu (.int n), .pu (.int w), .ow false (.li ((ws ++ [z]).map ni)), .no, .no, .no, .no, .no] = .nx [s0, .pu (.int n), .pu (.int w), .ow false (.li ((ws ++ [z]).map ni)), k4, k5, k6, k7, k8] := by
  obtain ⟨ρ', e, k4, k5, k6, k7, k8, rfl, _⟩ := forL_all (g := gNm 4) (b := bG) (fun ρ => ∃ k4 k5 k6 k7 k8, ρ = [s0, .pu (.int n), .pu (.int w), .ow false (.li ((ws ++ [z]).map ni)), k4, k5, k6, k7, k8] ∧ okS (some k4) = true ∧ okS (some k5) = true ∧ loose (some k6) = true ∧ okS (some k7) = true ∧ okS (some k8) = true) (ds := rows) (ρ := [s0, .pu (.int n), .pu (.int w), .ow false (.li ((ws ++ [z]).map ni)), .no, .no, .no, .no, .no]) (by
    rintro d hd ρ ⟨k4, k5, k6, k7, k8, rfl, q4, q5, q6, q7, q8⟩
    obtain ⟨cs, rfl, hc⟩ := hr d hd
    obtain ⟨k5', k6', k7', k8', q5', q6', q7', q8', e⟩ := gBody hn (cs := cs) (ws := ws) (z := z) (w := w) hc hw (s0 := s0) q5 q6 q7 q8
    exact ⟨[s0, .pu (.int n), .pu (.int w), .ow false (.li ((ws ++ [z]).map ni)), .pu (.tuple (cs.map ni)), k5, k6, k7, k8], _, by simp [setSl_ok, q4], e, _, _, _, _, _, rfl, rfl, q5', q6', q7', q8'⟩) ⟨_, _, _, _, _, rfl, rfl, rfl, rfl, rfl, rfl⟩
  exact ⟨k4, k5, k6, k7, k8, e⟩
theorem firsts_from {ds : List D} (h : DOK ds) {n : Nat} (hn : n ≤ 40) {s4 s5 s6 : Sl} : ∃ ds' k2 k3 k4 k5 k6 k7 k8, DOK ds' ∧ (oSeq (oSet 2 (oBin fAdd (oPu (oC (.int 1))) (oPu (oFrz (oCall g__law_draw (oCons (oVar 0) (oCons (oPu (oC (.int 8))) oNil)))))))
 (oSeq (oSet 3 (oLc [6] (oRange (oCons (oFrz (oBin fAdd (oVar 1) (oPu (oC (.int 1))))) oNil)) (gNm 6) oYes (oFrz (oCall g__law_edge_word (oCons (oVar 0) (oCons (oPu (oKeep (oVar 2))) oNil))))))
 (oSeq (oFor (oItm (oPu (oFrz (oCall g__law_conditions (oCons (oVar 0) (oCons (oPu (oKeep (oVar 1))) oNil)))))) (gNm 4) bG)
 (oRet (oRes (oC (.bool true))))))) [.ow true (.li ds), .pu (.int n), .no, .no, .no, .no, .no, .no, .no] = .rt (.pu (.bool true)) [.ow true (.li ds'), .pu (.int n), k2, k3, k4, k5, k6, k7, k8] := by
  obtain ⟨r, ds1, hd1, r0, r1, e1⟩ := draw h (m := 8) (by decide) (by decide)
  obtain ⟨w, hw⟩ : ∃ w : Nat, (1 + r : Int) = w := ⟨(1 + r).toNat, by omega⟩
  obtain ⟨wz, ds2, hd2, hl, e2⟩ := words_lc2 (w := w) (by omega) (by omega) (n := n + 1) hd1 (s1 := .pu (.int n)) (s3 := .no) (s4 := .no) (s5 := .no) (s7 := .no) (s8 := .no)
  obtain ⟨ws, z, rfl⟩ : ∃ ws z, wz = ws ++ [z] := ⟨wz.dropLast, wz.getLast (by intro q; rw [q] at hl; cases hl), (List.dropLast_concat_getLast _).symm⟩
  obtain ⟨ds3, rows, hd3, hr, hrl, e3⟩ := conditions_ok hn hd2
  obtain ⟨k4, k5, k6, k7, k8, e4⟩ := gLoop hn (ws := ws) (z := z) (w := w) (by simpa using hl) (s0 := .ow true (.li ds3)) hr
  have hlen : (rangeD 0 (n + 1)).length ≤ 16000000 := by rw [rangeD_length]; omega
  have hrg := fun ρ => rg1_nat (n := n + 1) (by omega) ρ
  rw [show ((n + 1 : Nat) : Int) = ((n : Nat) : Int) + 1 by omega] at hrg
  refine ⟨ds3, .pu (.int w), .ow false (.li ((ws ++ [z]).map ni)), k4, k5, k6, k7, k8, hd3, ?_⟩
  generalize rangeD 0 (n + 1) = RG at *
  generalize ((n : Nat) : Int) = N at *
  generalize (ws ++ [z]).map ni = WM at *
  generalize ((w : Nat) : Int) = W at *
  simp [-rg1_eq, ap_var, setSl_ok, e1, hw, hrg, lc1_eq, okW, loose, hlen, wipeR, restR, lcE, e2, e3, hrl, e4]
theorem firsts_told {ds : List D} (h : DOK ds) : ∃ ds', DOK ds' ∧ g__law_firsts_told [.ow true (.li ds)] = .ret (.pu (.bool true)) [.ow true (.li ds')] := by
  obtain ⟨b, ds1, hd1, e1⟩ := rare h (m := 12) (by decide) (by decide)
  have fin : ∀ (ds2 : List D), DOK ds2 → ∀ n : Nat, n ≤ 40 → oSet 1 (oIf (oTst (oCall g__law_rare (oCons (oVar 0) (oCons (oPu (oC (.int 12))) oNil)))) (oRes (oC (.int 40))) (oCall g__law_draw (oCons (oVar 0) (oCons (oPu (oC (.int 4))) oNil)))) [.ow true (.li ds), .no, .no, .no, .no, .no, .no, .no, .no] = .nx [.ow true (.li ds2), .pu (.int n), .no, .no, .no, .no, .no, .no, .no] → ∃ ds', DOK ds' ∧ g__law_firsts_told [.ow true (.li ds)] = .ret (.pu (.bool true)) [.ow true (.li ds')] := by
    intro ds2 hd2 n hn e
    obtain ⟨ds3, k2, k3, k4, k5, k6, k7, k8, hd3, e2⟩ := firsts_from hd2 hn (s4 := .no) (s5 := .no) (s6 := .no)
    refine ⟨ds3, hd3, ?_⟩
    unfold bG at e2
    unfold g__law_firsts_told b__law_firsts_told
    rw [fnOf_eq]
    show (match oSeq _ _ [Sl.ow true (.li ds), .no, .no, .no, .no, .no, .no, .no, .no] with | .nx ρ => Fr.ret (.pu .none) (ρ.take 1) | .rt r ρ => Fr.ret r (ρ.take 1) | _ => Fr.st) = _
    rw [ap_seq, e, Mo.then_nx, e2]
    rfl
  cases b with
  | true => exact fin ds1 hd1 40 (by decide) (by simp [ap_var, setSl_ok, e1])
  | false =>
    obtain ⟨r, ds2, hd2, r0, r1, e2⟩ := draw hd1 (m := 4) (by decide) (by decide)
    obtain ⟨n, hn⟩ : ∃ n : Nat, r = n := ⟨r.toNat, by omega⟩
    subst hn
    exact fin ds2 hd2 n (by omega) (by simp [ap_var, setSl_ok, e1, e2])
theorem law_eq (ns : List Int) (hl : ns.length ≤ 63) : ∃ outs, g_law [.pu (Ow.scr (ns.map PySem.PyData.int))] = .ret (.pu (.bool true)) outs := by
  obtain ⟨ds, hd, e0⟩ := begin_ok ns hl
  obtain ⟨b, ds1, hd1, e1⟩ := rare hd (m := 16) (by decide) (by decide)
  obtain ⟨ds2, wide, hd2, hw1, hw2, ew⟩ : ∃ (ds2 : List D) (wide : Nat), DOK ds2 ∧ 1 ≤ wide ∧ wide ≤ 4 ∧ oSet 2 (oIf (oTst (oCall g__law_rare (oCons (oVar 1) (oCons (oPu (oC (.int 16))) oNil)))) (oRes (oC (.int 4))) (oBin fAdd (oPu (oC (.int 2))) (oPu (oFrz (oCall g__law_draw (oCons (oVar 1) (oCons (oPu (oC (.int 2))) oNil))))))) [.pu (Ow.scr (ns.map PyData.int)), .ow false (.li ds), .no, .no] = .nx [.pu (Ow.scr (ns.map PyData.int)), .ow false (.li ds2), .pu (.int wide), .no] := by
    cases b with
    | true => exact ⟨ds1, 4, hd1, by decide, by decide, by simp [ap_var, setSl_ok, e1]⟩
    | false =>
      obtain ⟨r, ds2, hd2, r0, r1, e2⟩ := draw hd1 (m := 2) (by decide) (by decide)
      obtain ⟨n, hn⟩ : ∃ n : Nat, (2 + r : Int) = n := ⟨(2 + r).toNat, by omega⟩
      exact ⟨ds2, n, hd2, by omega, by omega, by simp [ap_var, setSl_ok, e1, e2, hn]⟩
  obtain ⟨o1, a1⟩ := all_told (w := 1) (by decide) (by decide)
  obtain ⟨o2, a2⟩ := all_told (w := wide) hw1 (by omega)
  obtain ⟨ρ', e3, ds3, k3, rfl, hd3, _⟩ := forL_all (g := gNm 3) (b := oIfS (oNot (oTst (oCall g__law_drawn_told (oCons (oVar 1) oNil)))) (oRet (oRes (oC (.bool false)))) oNext) (fun ρ => ∃ ds k3, ρ = [.pu (Ow.scr (ns.map PyData.int)), .ow false (.li ds), .pu (.int wide), k3] ∧ DOK ds ∧ okS (some k3) = true) (ds := rangeD 0 3) (ρ := [.pu (Ow.scr (ns.map PyData.int)), .ow false (.li ds2), .pu (.int wide), .no]) (by
    rintro d _ ρ ⟨ds, k3, rfl, hd, q3⟩
    obtain ⟨ds', hd', e⟩ := drawn_told hd
    exact ⟨[.pu (Ow.scr (ns.map PyData.int)), .ow false (.li ds), .pu (.int wide), .pu d], [.pu (Ow.scr (ns.map PyData.int)), .ow false (.li ds'), .pu (.int wide), .pu d], by simp [setSl_ok, q3], by simp [ap_var, e], ds', _, rfl, hd', rfl⟩) ⟨_, _, rfl, hd2, rfl⟩
  obtain ⟨ds4, hd4, e4⟩ := joins_told hd3
  obtain ⟨ds5, hd5, e5⟩ := picks_told hd4
  obtain ⟨ds6, hd6, e6⟩ := reads_told hd5
  obtain ⟨ds7, hd7, e7⟩ := firsts_told hd6
  have hrg : ∀ ρ, rg1 [.int 3] ρ = .ok (rangeD 0 3) ρ := fun ρ => rg1_nat (n := 3) (by decide) ρ
  refine ⟨[.pu (Ow.scr (ns.map PyData.int))], ?_⟩
  have b1 : oSet 1 (oCall g__law_begin (oCons (oPu (oKeep (oVar 0))) oNil)) [.pu (Ow.scr (ns.map PyData.int)), .no, .no, .no] = .nx [.pu (Ow.scr (ns.map PyData.int)), .ow false (.li ds), .no, .no] := by
    simp [ap_var, setSl_ok, e0]
  unfold g_law b_law
  rw [fnOf_eq]
  show (match oSeq _ _ [Sl.pu (Ow.scr (ns.map PyData.int)), .no, .no, .no] with | .nx ρ => Fr.ret (.pu .none) (ρ.take 1) | .rt r ρ => Fr.ret r (ρ.take 1) | _ => Fr.st) = _
  rw [ap_seq, b1, Mo.then_nx, ap_seq, ew, Mo.then_nx]
  have a1' : g__law_all_told [.pu (.int 1)] = .ret (.pu (.bool true)) o1 := a1
  generalize ((wide : Nat) : Int) = W at *
  simp [-rg1_eq, ap_var, setSl_ok, a1', a2, wb1, hrg, e3, e4, e5, e6, e7]
end K09
namespace K09
open PySem PySem.Spec PyProof.Rows L2 Ow
def q_plain_value : He.DefD := ⟨("plain_value", none), "plain_value", "plain_value", defArgs s_plain_value, defBody s_plain_value, defScope s_plain_value, [], []⟩
def q_word_value : He.DefD := ⟨("word_value", none), "word_value", "word_value", defArgs s_word_value, defBody s_word_value, defScope s_word_value, [], []⟩
def q__law_begin : He.DefD := ⟨("_law_begin", none), "_law_begin", "_law_begin", defArgs s__law_begin, defBody s__law_begin, defScope s__law_begin, [], []⟩
def q__law_draw : He.DefD := ⟨("_law_draw", none), "_law_draw", "_law_draw", defArgs s__law_draw, defBody s__law_draw, defScope s__law_draw, [], []⟩
def q__law_pick : He.DefD := ⟨("_law_pick", none), "_law_pick", "_law_pick", defArgs s__law_pick, defBody s__law_pick, defScope s__law_pick, [], []⟩
def q__law_rare : He.DefD := ⟨("_law_rare", none), "_law_rare", "_law_rare", defArgs s__law_rare, defBody s__law_rare, defScope s__law_rare, [], []⟩
def q__law_is_int : He.DefD := ⟨("_law_is_int", none), "_law_is_int", "_law_is_int", defArgs s__law_is_int, defBody s__law_is_int, defScope s__law_is_int, [], []⟩
def q__law_bits : He.DefD := ⟨("_law_bits", none), "_law_bits", "_law_bits", defArgs s__law_bits, defBody s__law_bits, defScope s__law_bits, [], []⟩
def q__law_word : He.DefD := ⟨("_law_word", none), "_law_word", "_law_word", defArgs s__law_word, defBody s__law_word, defScope s__law_word, [], []⟩
def q__law_all_bits : He.DefD := ⟨("_law_all_bits", none), "_law_all_bits", "_law_all_bits", defArgs s__law_all_bits, defBody s__law_all_bits, defScope s__law_all_bits, [], []⟩
def q__law_address : He.DefD := ⟨("_law_address", none), "_law_address", "_law_address", defArgs s__law_address, defBody s__law_address, defScope s__law_address, [], []⟩
def q__law_pair_ops : He.DefD := ⟨("_law_pair_ops", none), "_law_pair_ops", "_law_pair_ops", defArgs s__law_pair_ops, defBody s__law_pair_ops, defScope s__law_pair_ops, [], []⟩
def q__law_bitwise : He.DefD := ⟨("_law_bitwise", none), "_law_bitwise", "_law_bitwise", defArgs s__law_bitwise, defBody s__law_bitwise, defScope s__law_bitwise, [], []⟩
def q__law_told : He.DefD := ⟨("_law_told", none), "_law_told", "_law_told", defArgs s__law_told, defBody s__law_told, defScope s__law_told, [], []⟩
def q__law_told_twice : He.DefD := ⟨("_law_told_twice", none), "_law_told_twice", "_law_told_twice", defArgs s__law_told_twice, defBody s__law_told_twice, defScope s__law_told_twice, [], []⟩
def q__law_case : He.DefD := ⟨("_law_case", none), "_law_case", "_law_case", defArgs s__law_case, defBody s__law_case, defScope s__law_case, [], []⟩
def q__law_all_told : He.DefD := ⟨("_law_all_told", none), "_law_all_told", "_law_all_told", defArgs s__law_all_told, defBody s__law_all_told, defScope s__law_all_told, [], []⟩
def q__law_edge_word : He.DefD := ⟨("_law_edge_word", none), "_law_edge_word", "_law_edge_word", defArgs s__law_edge_word, defBody s__law_edge_word, defScope s__law_edge_word, [], []⟩
def q__law_drawn_told : He.DefD := ⟨("_law_drawn_told", none), "_law_drawn_told", "_law_drawn_told", defArgs s__law_drawn_told, defBody s__law_drawn_told, defScope s__law_drawn_told, [], []⟩
def q__law_join_told : He.DefD := ⟨("_law_join_told", none), "_law_join_told", "_law_join_told", defArgs s__law_join_told, defBody s__law_join_told, defScope s__law_join_told, [], []⟩
def q__law_joins_told : He.DefD := ⟨("_law_joins_told", none), "_law_joins_told", "_law_joins_told", defArgs s__law_joins_told, defBody s__law_joins_told, defScope s__law_joins_told, [], []⟩
def q__law_picks_told : He.DefD := ⟨("_law_picks_told", none), "_law_picks_told", "_law_picks_told", defArgs s__law_picks_told, defBody s__law_picks_told, defScope s__law_picks_told, [], []⟩
def q__law_reads_told : He.DefD := ⟨("_law_reads_told", none), "_law_reads_told", "_law_reads_told", defArgs s__law_reads_told, defBody s__law_reads_told, defScope s__law_reads_told, [], []⟩
def q__law_conditions : He.DefD := ⟨("_law_conditions", none), "_law_conditions", "_law_conditions", defArgs s__law_conditions, defBody s__law_conditions, defScope s__law_conditions, [], []⟩
def q__law_firsts_told : He.DefD := ⟨("_law_firsts_told", none), "_law_firsts_told", "_law_firsts_told", defArgs s__law_firsts_told, defBody s__law_firsts_told, defScope s__law_firsts_told, [], []⟩
def q_law : He.DefD := ⟨("law", none), "law", "law", defArgs s_law, defBody s_law, defScope s_law, [], []⟩
def fn : List He.DefD := [q_plain_value, q_word_value, q__law_begin, q__law_draw, q__law_pick, q__law_rare, q__law_is_int, q__law_bits, q__law_word, q__law_all_bits, q__law_address, q__law_pair_ops, q__law_bitwise, q__law_told, q__law_told_twice, q__law_case, q__law_all_told, q__law_edge_word, q__law_drawn_told, q__law_join_told, q__law_joins_told, q__law_picks_told, q__law_reads_told, q__law_conditions, q__law_firsts_told, q_law]
def fa : List He.Fa := [.glo "plain_value", .glo "word_value", .glo "_law_begin", .glo "_law_draw", .glo "_law_pick", .glo "_law_rare", .glo "_law_is_int", .glo "_law_bits", .glo "_law_word", .glo "_law_all_bits", .glo "_law_address", .glo "_law_pair_ops", .glo "_law_bitwise", .glo "_law_told", .glo "_law_told_twice", .glo "_law_case", .glo "_law_all_told", .glo "_law_edge_word", .glo "_law_drawn_told", .glo "_law_join_told", .glo "_law_joins_told", .glo "_law_picks_told", .glo "_law_reads_told", .glo "_law_conditions", .glo "_law_firsts_told", .glo "law", .free "abs", .free "all", .free "bool", .free "int", .free "isinstance", .free "len", .free "list", .free "max", .free "min", .free "range", .free "sum", .free "tuple"]
def ex (K : PySem.W.Frag) : Bool := true
abbrev R : PySem.W.OpenRow := PySem.W.OpenLaw.row PySem.Challenge.rw_wiredossier_k09_word_values
abbrev hk : PySem.W.Hook := hookQ 4 fa fn ex
def ob (s : PySem.W.SharedT) : He.AlD := obsQG 4 fa fn ex (HandSHeadRun.getT s)
theorem ob_eq (s : PySem.W.SharedT) : ob s = hk.obs s.abs := obsQG_eq (HandSHeadRun.getT_eq s)
abbrev ls : List Str := ["plain_value", "word_value", "_law_begin", "_law_draw", "_law_pick", "_law_rare", "_law_is_int", "_law_bits", "_law_word", "_law_all_bits", "_law_address", "_law_pair_ops", "_law_bitwise", "_law_told", "_law_told_twice", "_law_case", "_law_all_told", "_law_edge_word", "_law_drawn_told", "_law_join_told", "_law_joins_told", "_law_picks_told", "_law_reads_told", "_law_conditions", "_law_firsts_told"]
theorem hd_run (w : World) : HandSHeadRun.RunEq R (PySem.W.view R.prog [27]) hk ob 4000 ls w := by
  intro os
  kernel_rfl
theorem hd_facts {P : Program} {w : World} {K : PySem.W.Frag} {h : Heap} {mg : Str → Option Value} {f : Addr} (X : K.In h) (G : h.Ns mainGlobals mg) (hfa : mg ("law" : Str) = some (.ref f)) (c : He.SaysD fa fn K) (cx : ex K = true) :
    ∃ fd : FuncData, (∀ (s : Shared) (v : Value), BindsTo s fd ⟨[v], []⟩ [("script", v)]) ∧ ∀ base : Heap, K.In base → base.Ns mainGlobals mg → FnOk P w K mg base CX0 7 f fd ["script"] (spD K 1 g_law) := by
  unfold ex at cx
  have M : Mg K mg := ⟨He.free_ok X G (c.fact 26 (f := .free "abs") rfl), He.free_ok X G (c.fact 27 (f := .free "all") rfl), He.free_ok X G (c.fact 28 (f := .free "bool") rfl), He.free_ok X G (c.fact 29 (f := .free "int") rfl), He.free_ok X G (c.fact 30 (f := .free "isinstance") rfl), He.free_ok X G (c.fact 31 (f := .free "len") rfl), He.free_ok X G (c.fact 32 (f := .free "list") rfl), He.free_ok X G (c.fact 33 (f := .free "max") rfl), He.free_ok X G (c.fact 34 (f := .free "min") rfl), He.free_ok X G (c.fact 35 (f := .free "range") rfl), He.free_ok X G (c.fact 36 (f := .free "sum") rfl), He.free_ok X G (c.fact 37 (f := .free "tuple") rfl)⟩
  obtain ⟨fd_plain_value, F_plain_value⟩ := c.def_ 0 (d := q_plain_value) rfl
  have e_plain_value := He.glo_ok X G (c.fact 0 (f := .glo "plain_value") rfl)
  obtain ⟨fd_word_value, F_word_value⟩ := c.def_ 1 (d := q_word_value) rfl
  have e_word_value := He.glo_ok X G (c.fact 1 (f := .glo "word_value") rfl)
  obtain ⟨fd__law_begin, F__law_begin⟩ := c.def_ 2 (d := q__law_begin) rfl
  have e__law_begin := He.glo_ok X G (c.fact 2 (f := .glo "_law_begin") rfl)
  obtain ⟨fd__law_draw, F__law_draw⟩ := c.def_ 3 (d := q__law_draw) rfl
  have e__law_draw := He.glo_ok X G (c.fact 3 (f := .glo "_law_draw") rfl)
  obtain ⟨fd__law_pick, F__law_pick⟩ := c.def_ 4 (d := q__law_pick) rfl
  have e__law_pick := He.glo_ok X G (c.fact 4 (f := .glo "_law_pick") rfl)
  obtain ⟨fd__law_rare, F__law_rare⟩ := c.def_ 5 (d := q__law_rare) rfl
  have e__law_rare := He.glo_ok X G (c.fact 5 (f := .glo "_law_rare") rfl)
  obtain ⟨fd__law_is_int, F__law_is_int⟩ := c.def_ 6 (d := q__law_is_int) rfl
  have e__law_is_int := He.glo_ok X G (c.fact 6 (f := .glo "_law_is_int") rfl)
  obtain ⟨fd__law_bits, F__law_bits⟩ := c.def_ 7 (d := q__law_bits) rfl
  have e__law_bits := He.glo_ok X G (c.fact 7 (f := .glo "_law_bits") rfl)
  obtain ⟨fd__law_word, F__law_word⟩ := c.def_ 8 (d := q__law_word) rfl
  have e__law_word := He.glo_ok X G (c.fact 8 (f := .glo "_law_word") rfl)
  obtain ⟨fd__law_all_bits, F__law_all_bits⟩ := c.def_ 9 (d := q__law_all_bits) rfl
  have e__law_all_bits := He.glo_ok X G (c.fact 9 (f := .glo "_law_all_bits") rfl)
  obtain ⟨fd__law_address, F__law_address⟩ := c.def_ 10 (d := q__law_address) rfl
  have e__law_address := He.glo_ok X G (c.fact 10 (f := .glo "_law_address") rfl)
  obtain ⟨fd__law_pair_ops, F__law_pair_ops⟩ := c.def_ 11 (d := q__law_pair_ops) rfl
  have e__law_pair_ops := He.glo_ok X G (c.fact 11 (f := .glo "_law_pair_ops") rfl)
  obtain ⟨fd__law_bitwise, F__law_bitwise⟩ := c.def_ 12 (d := q__law_bitwise) rfl
  have e__law_bitwise := He.glo_ok X G (c.fact 12 (f := .glo "_law_bitwise") rfl)
  obtain ⟨fd__law_told, F__law_told⟩ := c.def_ 13 (d := q__law_told) rfl
  have e__law_told := He.glo_ok X G (c.fact 13 (f := .glo "_law_told") rfl)
  obtain ⟨fd__law_told_twice, F__law_told_twice⟩ := c.def_ 14 (d := q__law_told_twice) rfl
  have e__law_told_twice := He.glo_ok X G (c.fact 14 (f := .glo "_law_told_twice") rfl)
  obtain ⟨fd__law_case, F__law_case⟩ := c.def_ 15 (d := q__law_case) rfl
  have e__law_case := He.glo_ok X G (c.fact 15 (f := .glo "_law_case") rfl)
  obtain ⟨fd__law_all_told, F__law_all_told⟩ := c.def_ 16 (d := q__law_all_told) rfl
  have e__law_all_told := He.glo_ok X G (c.fact 16 (f := .glo "_law_all_told") rfl)
  obtain ⟨fd__law_edge_word, F__law_edge_word⟩ := c.def_ 17 (d := q__law_edge_word) rfl
  have e__law_edge_word := He.glo_ok X G (c.fact 17 (f := .glo "_law_edge_word") rfl)
  obtain ⟨fd__law_drawn_told, F__law_drawn_told⟩ := c.def_ 18 (d := q__law_drawn_told) rfl
  have e__law_drawn_told := He.glo_ok X G (c.fact 18 (f := .glo "_law_drawn_told") rfl)
  obtain ⟨fd__law_join_told, F__law_join_told⟩ := c.def_ 19 (d := q__law_join_told) rfl
  have e__law_join_told := He.glo_ok X G (c.fact 19 (f := .glo "_law_join_told") rfl)
  obtain ⟨fd__law_joins_told, F__law_joins_told⟩ := c.def_ 20 (d := q__law_joins_told) rfl
  have e__law_joins_told := He.glo_ok X G (c.fact 20 (f := .glo "_law_joins_told") rfl)
  obtain ⟨fd__law_picks_told, F__law_picks_told⟩ := c.def_ 21 (d := q__law_picks_told) rfl
  have e__law_picks_told := He.glo_ok X G (c.fact 21 (f := .glo "_law_picks_told") rfl)
  obtain ⟨fd__law_reads_told, F__law_reads_told⟩ := c.def_ 22 (d := q__law_reads_told) rfl
  have e__law_reads_told := He.glo_ok X G (c.fact 22 (f := .glo "_law_reads_told") rfl)
  obtain ⟨fd__law_conditions, F__law_conditions⟩ := c.def_ 23 (d := q__law_conditions) rfl
  have e__law_conditions := He.glo_ok X G (c.fact 23 (f := .glo "_law_conditions") rfl)
  obtain ⟨fd__law_firsts_told, F__law_firsts_told⟩ := c.def_ 24 (d := q__law_firsts_told) rfl
  have e__law_firsts_told := He.glo_ok X G (c.fact 24 (f := .glo "_law_firsts_told") rfl)
  obtain ⟨fd_law, F_law⟩ := c.def_ 25 (d := q_law) rfl
  have e_law := He.glo_ok X G (c.fact 25 (f := .glo "law") rfl)
  have e := hfa.symm.trans e_law
  cases e
  have b := FunD.bindsA (ps := ["script"]) F_law fun _ _ _ _ _ _ us hl => match us, hl with | [_], _ => rfl
  refine ⟨fd_law, fun s v => b s [v] rfl, fun base _ _ => ?_⟩
  have c_plain_value : Cal P w K mg base 1 "plain_value" ["op", "args", "width"] g_plain_value := Cal.of (ok_plain_value M F_plain_value) e_plain_value F_plain_value fun _ _ _ _ _ _ us hl => match us, hl with | [_, _, _], _ => rfl
  have c_word_value : Cal P w K mg base 2 "word_value" ["op", "args", "widths", "width"] g_word_value := Cal.of (ok_word_value M F_word_value c_plain_value) e_word_value F_word_value fun _ _ _ _ _ _ us hl => match us, hl with | [_, _, _, _], _ => rfl
  have c__law_begin : Cal P w K mg base 1 "_law_begin" ["script"] g__law_begin := Cal.of (ok__law_begin M F__law_begin) e__law_begin F__law_begin fun _ _ _ _ _ _ us hl => match us, hl with | [_], _ => rfl
  have c__law_draw : Cal P w K mg base 1 "_law_draw" ["d", "many"] g__law_draw := Cal.of (ok__law_draw M F__law_draw) e__law_draw F__law_draw fun _ _ _ _ _ _ us hl => match us, hl with | [_, _], _ => rfl
  have c__law_pick : Cal P w K mg base 2 "_law_pick" ["d", "row"] g__law_pick := Cal.of (ok__law_pick M F__law_pick c__law_draw) e__law_pick F__law_pick fun _ _ _ _ _ _ us hl => match us, hl with | [_, _], _ => rfl
  have c__law_rare : Cal P w K mg base 2 "_law_rare" ["d", "many"] g__law_rare := Cal.of (ok__law_rare M F__law_rare c__law_draw) e__law_rare F__law_rare fun _ _ _ _ _ _ us hl => match us, hl with | [_, _], _ => rfl
  have c__law_is_int : Cal P w K mg base 1 "_law_is_int" ["thing"] g__law_is_int := Cal.of (ok__law_is_int M F__law_is_int) e__law_is_int F__law_is_int fun _ _ _ _ _ _ us hl => match us, hl with | [_], _ => rfl
  have c__law_bits : Cal P w K mg base 1 "_law_bits" ["value", "width"] g__law_bits := Cal.of (ok__law_bits M F__law_bits) e__law_bits F__law_bits fun _ _ _ _ _ _ us hl => match us, hl with | [_, _], _ => rfl
  have c__law_word : Cal P w K mg base 1 "_law_word" ["bits"] g__law_word := Cal.of (ok__law_word M F__law_word) e__law_word F__law_word fun _ _ _ _ _ _ us hl => match us, hl with | [_], _ => rfl
  have c__law_all_bits : Cal P w K mg base 2 "_law_all_bits" ["many"] g__law_all_bits := Cal.of (ok__law_all_bits M F__law_all_bits c__law_bits) e__law_all_bits F__law_all_bits fun _ _ _ _ _ _ us hl => match us, hl with | [_], _ => rfl
  have c__law_address : Cal P w K mg base 1 "_law_address" ["count"] g__law_address := Cal.of (ok__law_address M F__law_address) e__law_address F__law_address fun _ _ _ _ _ _ us hl => match us, hl with | [_], _ => rfl
  have c__law_pair_ops : Cal P w K mg base 1 "_law_pair_ops" [] g__law_pair_ops := Cal.of (ok__law_pair_ops M F__law_pair_ops) e__law_pair_ops F__law_pair_ops fun _ _ _ _ _ _ us hl => match us, hl with | [], _ => rfl
  have c__law_bitwise : Cal P w K mg base 2 "_law_bitwise" ["op", "one", "two", "width"] g__law_bitwise := Cal.of (ok__law_bitwise M F__law_bitwise c__law_bits c__law_word) e__law_bitwise F__law_bitwise fun _ _ _ _ _ _ us hl => match us, hl with | [_, _, _, _], _ => rfl
  have c__law_told : Cal P w K mg base 3 "_law_told" ["op", "args", "widths", "width", "due"] g__law_told := Cal.of (ok__law_told M F__law_told c__law_is_int c_word_value) e__law_told F__law_told fun _ _ _ _ _ _ us hl => match us, hl with | [_, _, _, _, _], _ => rfl
  have c__law_told_twice : Cal P w K mg base 4 "_law_told_twice" ["op", "args", "widths", "width", "due"] g__law_told_twice := Cal.of (ok__law_told_twice M F__law_told_twice c__law_is_int c__law_told c_word_value) e__law_told_twice F__law_told_twice fun _ _ _ _ _ _ us hl => match us, hl with | [_, _, _, _, _], _ => rfl
  have c__law_case : Cal P w K mg base 3 "_law_case" ["op", "one", "two", "width"] g__law_case := Cal.of (ok__law_case M F__law_case c__law_bitwise) e__law_case F__law_case fun _ _ _ _ _ _ us hl => match us, hl with | [_, _, _, _], _ => rfl
  have c__law_all_told : Cal P w K mg base 4 "_law_all_told" ["width"] g__law_all_told := Cal.of (ok__law_all_told M F__law_all_told c__law_case c__law_pair_ops c__law_told) e__law_all_told F__law_all_told fun _ _ _ _ _ _ us hl => match us, hl with | [_], _ => rfl
  have c__law_edge_word : Cal P w K mg base 3 "_law_edge_word" ["d", "width"] g__law_edge_word := Cal.of (ok__law_edge_word M F__law_edge_word c__law_draw c__law_pick) e__law_edge_word F__law_edge_word fun _ _ _ _ _ _ us hl => match us, hl with | [_, _], _ => rfl
  have c__law_drawn_told : Cal P w K mg base 5 "_law_drawn_told" ["d"] g__law_drawn_told := Cal.of (ok__law_drawn_told M F__law_drawn_told c__law_case c__law_draw c__law_edge_word c__law_pair_ops c__law_told_twice) e__law_drawn_told F__law_drawn_told fun _ _ _ _ _ _ us hl => match us, hl with | [_], _ => rfl
  have c__law_join_told : Cal P w K mg base 5 "_law_join_told" ["low", "high", "one", "two"] g__law_join_told := Cal.of (ok__law_join_told M F__law_join_told c__law_bits c__law_told_twice c__law_word) e__law_join_told F__law_join_told fun _ _ _ _ _ _ us hl => match us, hl with | [_, _, _, _], _ => rfl
  have c__law_joins_told : Cal P w K mg base 6 "_law_joins_told" ["d"] g__law_joins_told := Cal.of (ok__law_joins_told M F__law_joins_told c__law_draw c__law_edge_word c__law_join_told) e__law_joins_told F__law_joins_told fun _ _ _ _ _ _ us hl => match us, hl with | [_], _ => rfl
  have c__law_picks_told : Cal P w K mg base 5 "_law_picks_told" ["d"] g__law_picks_told := Cal.of (ok__law_picks_told M F__law_picks_told c__law_draw c__law_edge_word c__law_told_twice) e__law_picks_told F__law_picks_told fun _ _ _ _ _ _ us hl => match us, hl with | [_], _ => rfl
  have c__law_reads_told : Cal P w K mg base 5 "_law_reads_told" ["d"] g__law_reads_told := Cal.of (ok__law_reads_told M F__law_reads_told c__law_address c__law_draw c__law_edge_word c__law_told_twice) e__law_reads_told F__law_reads_told fun _ _ _ _ _ _ us hl => match us, hl with | [_], _ => rfl
  have c__law_conditions : Cal P w K mg base 3 "_law_conditions" ["d", "many"] g__law_conditions := Cal.of (ok__law_conditions M F__law_conditions c__law_all_bits c__law_draw) e__law_conditions F__law_conditions fun _ _ _ _ _ _ us hl => match us, hl with | [_, _], _ => rfl
  have c__law_firsts_told : Cal P w K mg base 5 "_law_firsts_told" ["d"] g__law_firsts_told := Cal.of (ok__law_firsts_told M F__law_firsts_told c__law_conditions c__law_draw c__law_edge_word c__law_rare c__law_told_twice) e__law_firsts_told F__law_firsts_told fun _ _ _ _ _ _ us hl => match us, hl with | [_], _ => rfl
  exact ok_law M F_law c__law_all_told c__law_begin c__law_draw c__law_drawn_told c__law_firsts_told c__law_joins_told c__law_picks_told c__law_rare c__law_reads_told
end K09
open PySem PySem.W PySem.Calls PyProof.Rows
theorem PySem.Challenge.cw_wiredossier_k09_word_values_holds : PySem.Challenge.rw_wiredossier_k09_word_values.Holds := by
  w_on; o_law
  refine HandSHeadRun.head_any (r := OpenLaw.row PySem.Challenge.rw_wiredossier_k09_word_values) (q := view (OpenLaw.row PySem.Challenge.rw_wiredossier_k09_word_values).prog [27]) (H := K09.hk) (ob := K09.ob) (M := 4000) (loose := K09.ls) (d := HandSHeadRun.topDef (OpenLaw.row PySem.Challenge.rw_wiredossier_k09_word_values).prog 27) (kwd := []) K09.ob_eq
    (by kernel_rfl) (fun s => by kernel_rfl) K09.hd_run (by kernel_rfl) (by kernel_rfl) (by kernel_rfl) (by rfl) (by first | assumption | decide +kernel) (by decide +kernel) ⟨rfl, rfl, rfl, rfl, rfl, by decide +kernel⟩ ?hw ?hc
  case hw => w_witness2
  case hc =>
    refine L2.walk_ofE (l := PySem.Challenge.rw_wiredossier_k09_word_values) (n := 63) (k := 7) (x := "script") (CX := L2.CX0) rfl (by decide) (by kernel_rfl) ⟨rfl, by decide, by decide⟩ ?F (fun _ _ _ _ z => z)
    intro w mg fa h Y G hmg0
    obtain ⟨K, KX, c, cx⟩ := Y
    have hmg : mg ("law" : PySem.Str) = some (.ref fa) := by
      have e : (HandSHeadRun.topDef (OpenLaw.row PySem.Challenge.rw_wiredossier_k09_word_values).prog 27).name = ("law" : PySem.Str) := by kernel_rfl
      rw [← e]
      exact hmg0
    obtain ⟨fd, hb, hF⟩ := K09.hd_facts (P := (PySem.Challenge.rw_wiredossier_k09_word_values).prog) (w := w) KX G hmg c cx
    exact ⟨K, fd, Ow.spD K 1 K09.g_law, KX, hb, fun H a ns hl _ hS => Ow.sp_law (outs := []) (K09.law_eq ns hl) hS, hF⟩
