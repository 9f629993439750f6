import PyProof.Rows.All
import HandS.ForMost
import HandS.ForExc
import HandS.Walk
import HandS.Flow
import HandS.Zip
import HandS.Conv
import HandS.NoneIn
import HandS.More
import HandS.StrMore
import HandS.SortInts
import HandS.Wide
import HandS.WideMore
import HandS.RevRange
import HandS.IsInst
import HandS.Defaults
import HandS.TupAny
import HandS.WideBits
import HandS.Steps
import HandS.Head0
import HandS.Head1
import HandS.Head2
import HandS.HeadEnd
import HandS.HeadHook1
import HandS.HeadHook2
import PySem.Challenge.RW_wiredossier_k01_tokens
set_option Elab.async false
set_option linter.all false
set_option maxRecDepth 100000
set_option maxHeartbeats 0
/-! Ow: a layer over HandS. A def's body is read as a plain Lean program over data (PyData) with owned lists; the heap is dealt with once, here. -/
namespace Ow
open PySem L2
abbrev D := PyData
/-! ### data that stands still: lists and tuples of the abstract heap, at any depth; a list that is only known to be readable (the script) is told by a word of its own -/
abbrev scr (ds : List D) : D := .dict [(.none, .list ds)]
/-- a tuple that stands in the written part -/
abbrev kon (ds : List D) : D := .dict [(.bool true, .tuple ds)]
mutual
inductive Rp (K : PySem.W.Frag) (Z : Hp) : V → PyData → Prop
  | non : Rp K Z .non .none
  | bl (b : Bool) : Rp K Z (.bl b) (.bool b)
  | int (i : Int) : Rp K Z (.int i) (.int i)
  | str (x : Str) : Rp K Z (.str x) (.str x)
  | lst {a : Addr} {xs : List V} {ds : List PyData} : Z a = some (.lst xs) → RpAll K Z xs ds → Rp K Z (.ref a) (.list ds)
  | tup {a : Addr} {xs : List V} {ds : List PyData} : Z a = some (.tup xs) → RpAll K Z xs ds → Rp K Z (.ref a) (.tuple ds)
  | kon {a : Addr} {xs : List V} {ds : List PyData} : SqT K Z a xs → RpAll K Z xs ds → Rp K Z (.ref a) (kon ds)
  | frz {a : Addr} {xs : List V} {ds : List PyData} : SqL K Z a xs → RpAll K Z xs ds → Rp K Z (.ref a) (scr ds)
inductive RpAll (K : PySem.W.Frag) (Z : Hp) : List V → List PyData → Prop
  | nil : RpAll K Z [] []
  | cons {v : V} {vs : List V} {d : PyData} {ds : List PyData} : Rp K Z v d → RpAll K Z vs ds → RpAll K Z (v :: vs) (d :: ds)
end
theorem sqL_mono {K : PySem.W.Frag} {Z Z' : Hp} {a : Addr} {xs : List V} (e : Same Z Z') (h : SqL K Z a xs) : SqL K Z' a xs := e.seq h
theorem sqT_mono {K : PySem.W.Frag} {Z Z' : Hp} {a : Addr} {xs : List V} (e : Same Z Z') (h : SqT K Z a xs) : SqT K Z' a xs := by
  rcases h with (h | ⟨o, h⟩) | h
  · exact .inl (.inl (e _ _ h))
  · exact .inl (.inr ⟨o, e _ _ h⟩)
  · exact .inr h
section
variable {K : PySem.W.Frag} {Z Z' : Hp}
mutual
theorem Rp.mono {v : V} {d : D} (h : Rp K Z v d) (e : Same Z Z') : Rp K Z' v d := by
  cases h with
  | non => exact .non
  | bl b => exact .bl b
  | int i => exact .int i
  | str x => exact .str x
  | lst h1 h2 => exact .lst (e _ _ h1) (h2.mono e)
  | tup h1 h2 => exact .tup (e _ _ h1) (h2.mono e)
  | kon h1 h2 => exact .kon (sqT_mono e h1) (h2.mono e)
  | frz h1 h2 => exact .frz (sqL_mono e h1) (h2.mono e)
theorem RpAll.mono {vs : List V} {ds : List D} (h : RpAll K Z vs ds) (e : Same Z Z') : RpAll K Z' vs ds := by
  cases h with
  | nil => exact .nil
  | cons h1 h2 => exact .cons (h1.mono e) (h2.mono e)
end
mutual
theorem Rp.dp : ∀ {v : V} {d : D}, Rp K Z v d → d.canLay0 = true → Dp K Z v d
  | _, .none, h, _ => by cases h; exact .non
  | _, .bool b, h, _ => by cases h; exact .bl b
  | _, .int b, h, _ => by cases h; exact .int b
  | _, .str b, h, _ => by cases h; exact .str b
  | _, .list ds, h, c => by
    cases h with
    | lst h1 h2 => exact .lst (SqL.of h1) (RpAll.dp h2 (by simpa [PyData.canLay0] using c))
  | _, .tuple ds, h, c => by
    cases h with
    | tup h1 h2 => exact .tup (SqT.of h1) (RpAll.dp h2 (by simpa [PyData.canLay0] using c))
  | _, .dict _, _, c => by simp [PyData.canLay0] at c
theorem RpAll.dp : ∀ {vs : List V} {ds : List D}, RpAll K Z vs ds → PyData.canLayAll0 ds = true → DpAll K Z vs ds
  | _, [], h, _ => by cases h; exact .nil
  | _, d :: ds, h, c => by
    cases h with
    | cons h1 h2 =>
      have c' : d.canLay0 = true ∧ PyData.canLayAll0 ds = true := by simpa [PyData.canLayAll0] using c
      exact .cons (Rp.dp h1 c'.1) (RpAll.dp h2 c'.2)
end
end
theorem RpAll.length {K : PySem.W.Frag} {Z : Hp} : ∀ {vs : List V} {ds : List D}, RpAll K Z vs ds → vs.length = ds.length
  | _, _, .nil => rfl
  | _, _, .cons _ h => by simp [RpAll.length h]
theorem RpAll.get {K : PySem.W.Frag} {Z : Hp} : ∀ {vs : List V} {ds : List D} {i : Nat} {d : D}, RpAll K Z vs ds → ds[i]? = some d → ∃ v, vs[i]? = some v ∧ Rp K Z v d
  | _, _, _, _, .nil, e => by simp at e
  | _, _, 0, _, .cons h _, e => by simp at e; subst e; exact ⟨_, rfl, h⟩
  | _, _, i + 1, _, .cons _ h, e => by
    obtain ⟨v, q, r⟩ := RpAll.get (i := i) h (by simpa using e)
    exact ⟨v, by simpa using q, r⟩
theorem RpAll.get' {K : PySem.W.Frag} {Z : Hp} : ∀ {vs : List V} {ds : List D} {i : Nat} {v : V}, RpAll K Z vs ds → vs[i]? = some v → ∃ d, ds[i]? = some d ∧ Rp K Z v d
  | _, _, _, _, .nil, e => by simp at e
  | _, _, 0, _, .cons h _, e => by simp at e; subst e; exact ⟨_, rfl, h⟩
  | _, _, i + 1, _, .cons _ h, e => by
    obtain ⟨v, q, r⟩ := RpAll.get' (i := i) h (by simpa using e)
    exact ⟨v, by simpa using q, r⟩
theorem RpAll.append {K : PySem.W.Frag} {Z : Hp} : ∀ {vs ws : List V} {ds es : List D}, RpAll K Z vs ds → RpAll K Z ws es → RpAll K Z (vs ++ ws) (ds ++ es)
  | _, _, _, _, .nil, h => h
  | _, _, _, _, .cons q r, h => .cons q (RpAll.append r h)
theorem RpAll.take {K : PySem.W.Frag} {Z : Hp} : ∀ (n : Nat) {vs : List V} {ds : List D}, RpAll K Z vs ds → RpAll K Z (vs.take n) (ds.take n)
  | 0, _, _, _ => by simp; exact .nil
  | n + 1, _, _, .nil => by simp; exact .nil
  | n + 1, _, _, .cons q r => by simp; exact .cons q (RpAll.take n r)
theorem RpAll.drop {K : PySem.W.Frag} {Z : Hp} : ∀ (n : Nat) {vs : List V} {ds : List D}, RpAll K Z vs ds → RpAll K Z (vs.drop n) (ds.drop n)
  | 0, _, _, h => by simpa using h
  | n + 1, _, _, .nil => by simp; exact .nil
  | n + 1, _, _, .cons q r => by simp; exact RpAll.drop n r
theorem RpAll.set {K : PySem.W.Frag} {Z : Hp} {v : V} {d : D} (h : Rp K Z v d) : ∀ (n : Nat) {vs : List V} {ds : List D}, RpAll K Z vs ds → RpAll K Z (vs.set n v) (ds.set n d)
  | _, _, _, .nil => by simp; exact .nil
  | 0, _, _, .cons q r => by simp; exact .cons h r
  | n + 1, _, _, .cons q r => by simp; exact .cons q (RpAll.set h n r)
theorem RpAll.one {K : PySem.W.Frag} {Z : Hp} {v : V} {d : D} (h : Rp K Z v d) : RpAll K Z [v] [d] := .cons h .nil
theorem RpAll.eraseIdx {K : PySem.W.Frag} {Z : Hp} : ∀ (n : Nat) {vs : List V} {ds : List D}, RpAll K Z vs ds → RpAll K Z (vs.eraseIdx n) (ds.eraseIdx n)
  | _, _, _, .nil => by simp; exact .nil
  | 0, _, _, .cons q r => by simp; exact r
  | n + 1, _, _, .cons q r => by simp; exact .cons q (RpAll.eraseIdx n r)
theorem RpAll.reverse {K : PySem.W.Frag} {Z : Hp} {vs : List V} {ds : List D} (h : RpAll K Z vs ds) : RpAll K Z vs.reverse ds.reverse := by
  induction ds generalizing vs with
  | nil => cases h; exact .nil
  | cons d ds ih =>
    cases h with
    | cons q r => rw [List.reverse_cons, List.reverse_cons]; exact RpAll.append (ih r) (RpAll.one q)
theorem RpAll.dropLast {K : PySem.W.Frag} {Z : Hp} {vs : List V} {ds : List D} (h : RpAll K Z vs ds) : RpAll K Z vs.dropLast ds.dropLast := by
  rw [List.dropLast_eq_take, List.dropLast_eq_take, h.length]; exact h.take _
theorem RpAll.ints {K : PySem.W.Frag} {Z : Hp} : ∀ (ns : List Int), RpAll K Z (ns.map V.int) (ns.map PyData.int)
  | [] => .nil
  | n :: ns => .cons (.int n) (RpAll.ints ns)
theorem RpAll.strs {K : PySem.W.Frag} {Z : Hp} : ∀ (ns : List Str), RpAll K Z (ns.map V.str) (ns.map PyData.str)
  | [] => .nil
  | n :: ns => .cons (.str n) (RpAll.strs ns)
theorem RpAll.of_ints {K : PySem.W.Frag} {Z : Hp} : ∀ {vs : List V} {ns : List Int}, RpAll K Z vs (ns.map PyData.int) → vs = ns.map V.int
  | _, [], h => by cases h; rfl
  | _, n :: ns, h => by
    cases h with
    | cons h1 h2 => cases h1; rw [RpAll.of_ints h2]; rfl
theorem RpAll.of_strs {K : PySem.W.Frag} {Z : Hp} : ∀ {vs : List V} {ns : List Str}, RpAll K Z vs (ns.map PyData.str) → vs = ns.map V.str
  | _, [], h => by cases h; rfl
  | _, n :: ns, h => by
    cases h with
    | cons h1 h2 => cases h1; rw [RpAll.of_strs h2]; rfl
theorem RpAll.of_bools {K : PySem.W.Frag} {Z : Hp} : ∀ {vs : List V} {ns : List Bool}, RpAll K Z vs (ns.map PyData.bool) → vs = ns.map V.bl
  | _, [], h => by cases h; rfl
  | _, n :: ns, h => by
    cases h with
    | cons h1 h2 => cases h1; rw [RpAll.of_bools h2]; rfl
/-! ### owned things -/
inductive Ct where
  | li (ds : List D)
  | dk (kvs : List (Key × D))
  | dt (kvs : List (List Key × D))
inductive Sl where
  | no
  | pu (d : D)
  | ow (pin : Bool) (c : Ct)
abbrev Rho := List Sl

def KvR {κ : Type} (K : PySem.W.Frag) (Z : Hp) : List (κ × V) → List (κ × D) → Prop := Paired fun (p : κ × V) (q : κ × D) => p.1 = q.1 ∧ Rp K Z p.2 q.2
theorem KvR.mono {κ : Type} {K : PySem.W.Frag} {Z Z' : Hp} {p : List (κ × V)} {q : List (κ × D)} (h : KvR K Z p q) (e : Same Z Z') : KvR K Z' p q :=
  Paired.mapP h fun _ _ r => ⟨r.1, Rp.mono r.2 e⟩
def CtR (K : PySem.W.Frag) (Z : Hp) : HO → Ct → Prop
  | .lst vs, .li ds => RpAll K Z vs ds
  | .dK kvs, .dk eds => KvR K Z kvs eds
  | .dT kvs, .dt eds => KvR K Z kvs eds
  | _, _ => False
theorem CtR.mono {K : PySem.W.Frag} {Z Z' : Hp} {o : HO} {c : Ct} (h : CtR K Z o c) (e : Same Z Z') : CtR K Z' o c := by
  cases o <;> cases c <;> first | exact h.elim | exact RpAll.mono h e | exact KvR.mono h e | exact h
theorem CtR.mu {K : PySem.W.Frag} {Z : Hp} {o : HO} {c : Ct} (h : CtR K Z o c) : Mut (some o) := by
  cases o <;> cases c <;> first | exact h.elim | trivial

/-- the ground of a body: the abstract heap and the still data at its entry, the slots that hold what the caller lent -/
structure Gm where
  H0 : Hp
  Z0 : Hp
  pins : List (Nat × Addr)
def Gm.lent (G : Gm) (a : Addr) : Prop := ∃ i, (i, a) ∈ G.pins

structure Sim (K : PySem.W.Frag) (G : Gm) (Z : Hp) (ρ : Rho) (σ : St) (H : Hp) : Prop where
  zz : Same G.Z0 Z
  zh : Same Z H
  fr : ∀ a o, G.H0 a = some o → ¬ G.lent a → H a = some o
  nw : ∀ a o, Z a = some o → G.Z0 a = some o ∨ G.H0 a = none
  pu : ∀ (i : Nat) d, ρ[i]? = some (Sl.pu d) → ∃ v, σ[i]? = some (some v) ∧ Rp K Z v d
  ow : ∀ (i : Nat) p c, ρ[i]? = some (Sl.ow p c) → ∃ a o, σ[i]? = some (some (V.ref a)) ∧ H a = some o ∧ CtR K Z o c ∧ Z a = none ∧ (p = true → G.lent a) ∧ (p = false → G.H0 a = none)
  ne : ∀ (i j : Nat) p q c d, i ≠ j → ρ[i]? = some (Sl.ow p c) → ρ[j]? = some (Sl.ow q d) → σ[i]? ≠ σ[j]?
  pin : ∀ (i : Nat) a, (i, a) ∈ G.pins → σ[i]? = some (some (V.ref a)) ∧ ∃ c, ρ[i]? = some (Sl.ow true c)
  len : ρ.length = σ.length

/-- the heap grows: new things, some of them still data -/
structure Grow (Z H Z' H' : Hp) : Prop where
  z : Same Z Z'
  zh : Same Z' H'
  h : Same H H'
  n : ∀ a o, Z' a = some o → Z a = some o ∨ H a = none
theorem Grow.refl {Z H : Hp} (h : Same Z H) : Grow Z H Z H := ⟨.refl _, h, .refl _, fun _ _ e => .inl e⟩
theorem same_upd {H : Hp} {p : Addr} (h : H p = none) (o : HO) : Same H (upd H p o) := fun b u q => by rw [upd_ne (ne_of_none q h)]; exact q
theorem none_of_same {Z H : Hp} (e : Same Z H) {p : Addr} (h : H p = none) : Z p = none := e.free h
/-- a new thing that stands still -/
theorem Grow.still {Z H : Hp} (e : Same Z H) {p : Addr} (h : H p = none) (o : HO) : Grow Z H (upd Z p o) (upd H p o) where
  z := same_upd (none_of_same e h) o
  zh := fun b u q => by
    by_cases hb : b = p
    · subst hb; rw [upd_same] at q ⊢; exact q
    · rw [upd_ne hb] at q ⊢; exact e _ _ q
  h := same_upd h o
  n := fun b u q => by
    by_cases hb : b = p
    · subst hb; exact .inr h
    · rw [upd_ne hb] at q; exact .inl q
/-- a new thing that does not -/
theorem Grow.loose {Z H : Hp} (e : Same Z H) {p : Addr} (h : H p = none) (o : HO) : Grow Z H Z (upd H p o) :=
  ⟨.refl _, fun b u q => by rw [upd_ne (ne_of_none (e _ _ q) h)]; exact e _ _ q, same_upd h o, fun _ _ q => .inl q⟩
theorem Grow.trans {Z H Z1 H1 Z2 H2 : Hp} (a : Grow Z H Z1 H1) (b : Grow Z1 H1 Z2 H2) : Grow Z H Z2 H2 :=
  ⟨a.z.trans b.z, b.zh, a.h.trans b.h, fun x o e => (b.n x o e).elim (fun q => a.n x o q) fun q => .inr (a.h.free q)⟩

section
variable {K : PySem.W.Frag} {G : Gm} {Z Z' : Hp} {ρ : Rho} {σ : St} {H H' : Hp}
theorem Sim.lentIn (S : Sim K G Z ρ σ H) {a : Addr} (h : G.lent a) : ∃ (i : Nat) (c : Ct) (o : HO), σ[i]? = some (some (V.ref a)) ∧ ρ[i]? = some (Sl.ow true c) ∧ H a = some o ∧ CtR K Z o c ∧ Z a = none := by
  obtain ⟨i, hi⟩ := h
  obtain ⟨e, c, hc⟩ := S.pin i a hi
  obtain ⟨b, o, e', ho, r, z, _, _⟩ := S.ow i true c hc
  rw [e] at e'
  cases e'
  exact ⟨i, c, o, e, hc, ho, r, z⟩
theorem Sim.freshIn (S : Sim K G Z ρ σ H) {a : Addr} (h : H a = none) : G.H0 a = none := by
  cases e : G.H0 a with
  | none => rfl
  | some o =>
    by_cases l : G.lent a
    · obtain ⟨_, _, _, _, _, q, _⟩ := S.lentIn l
      rw [h] at q; cases q
    · have q := S.fr a o e l
      rw [h] at q; cases q
theorem Sim.grow (S : Sim K G Z ρ σ H) (g : Grow Z H Z' H') : Sim K G Z' ρ σ H' where
  zz := S.zz.trans g.z
  zh := g.zh
  fr := fun a o e l => g.h _ _ (S.fr a o e l)
  nw := fun a o e => (g.n a o e).elim (fun q => S.nw a o q) fun q => .inr (S.freshIn q)
  pu := fun i d e => let ⟨v, q, r⟩ := S.pu i d e; ⟨v, q, r.mono g.z⟩
  ow := fun i p c e => by
    obtain ⟨a, o, q, ho, r, z, l⟩ := S.ow i p c e
    refine ⟨a, o, q, g.h _ _ ho, r.mono g.z, ?_, l⟩
    cases q' : Z' a with
    | none => rfl
    | some u =>
      rcases g.n a u q' with w | w
      · rw [z] at w; cases w
      · rw [ho] at w; cases w
  ne := S.ne
  pin := S.pin
  len := S.len
theorem Sim.fresh (S : Sim K G Z ρ σ H) {p : Addr} (h : H p = none) : Z p = none := none_of_same S.zh h
end

/-! ### results -/
structure Xn where
  cls : Str
  told : List (Str × D)
inductive M (α : Type) where
  | st
  | ok (a : α) (ρ : Rho)
  | ex (x : Xn) (ρ : Rho)
def M.bind {α β : Type} (m : M α) (f : α → Rho → M β) : M β := match m with
  | .st => .st
  | .ok a ρ => f a ρ
  | .ex x ρ => .ex x ρ
@[simp] theorem M.bind_ok {α β : Type} (a : α) (ρ : Rho) (f : α → Rho → M β) : (M.ok a ρ).bind f = f a ρ := rfl
@[simp] theorem M.bind_st {α β : Type} (f : α → Rho → M β) : (M.st : M α).bind f = .st := rfl
@[simp] theorem M.bind_ex {α β : Type} (x : Xn) (ρ : Rho) (f : α → Rho → M β) : (M.ex x ρ : M α).bind f = .ex x ρ := rfl
abbrev O (α : Type) := Rho → M α
inductive Va where
  | pu (d : D)
  | rf (i : Nat)
inductive Rs where
  | pu (d : D)
  | nw (c : Ct)
/-- what is wanted of an exception -/
abbrev Wish := Xn → Rho → Hp → St → Hp → Prop
abbrev Rel (α β : Type) := Hp → Rho → St → Hp → β → α → Prop

section
variable (K : PySem.W.Frag) (G : Gm) (B : Wish)
def Post {α β : Type} (R : Rel α β) (σ : St) (Z : Hp) (m : M α) (Q : β → Hp → Prop) : Prop := match m with
  | .st => False
  | .ok a ρ' => ∀ v Z' H', Same Z Z' → Sim K G Z' ρ' σ H' → R Z' ρ' σ H' v a → Q v H'
  | .ex x ρ' => ∀ Z' H', Same Z Z' → Sim K G Z' ρ' σ H' → B x ρ' Z' σ H'
def Run {α β : Type} (R : Rel α β) (o : O α) : St → Hp → (β → Hp → Prop) → Prop := fun σ H Q => ∃ Z ρ, Sim K G Z ρ σ H ∧ Post K G B R σ Z (o ρ) Q
def VaR : Rel Va V := fun Z ρ σ H v a => match a with
  | .pu d => Rp K Z v d
  | .rf i => σ[i]? = some (some v)
def RsR : Rel Rs V := fun Z ρ σ H v r => match r with
  | .pu d => Rp K Z v d
  | .nw c => ∃ a o, v = V.ref a ∧ H a = some o ∧ CtR K Z o c ∧ Z a = none ∧ G.H0 a = none ∧ ∀ (i : Nat) p c, ρ[i]? = some (Sl.ow p c) → σ[i]? ≠ some (some (V.ref a))
def BoR : Rel Bool Bool := fun _ _ _ _ b a => b = a
def VasR : Rel (List Va) (List V) := fun Z ρ σ H vs as => Paired (VaR K Z ρ σ H) vs as
end
theorem Post.bind {K : PySem.W.Frag} {G : Gm} {B : Wish} {α α' β β' : Type} {R : Rel α β} {R' : Rel α' β'} {σ : St} {Z : Hp} {m : M α} {f : α → Rho → M α'} {Q : β' → Hp → Prop} {C : β → Hp → Prop} (h : Post K G B R' σ Z (m.bind f) Q)
    (k : ∀ x a ρ1 Z1 H1, Same Z Z1 → Sim K G Z1 ρ1 σ H1 → R Z1 ρ1 σ H1 x a → Post K G B R' σ Z1 (f a ρ1) Q → C x H1) : Post K G B R σ Z m C := by
  cases m with
  | st => exact h
  | ex x ρ => exact h
  | ok a ρ1 =>
    intro v Z' H' e S r
    refine k v a ρ1 Z' H' e S r ?_
    have h' : Post K G B R' σ Z (f a ρ1) Q := h
    cases q : f a ρ1 with
    | st => rw [q] at h'; exact h'
    | ok b ρ2 => rw [q] at h'; exact fun v2 Z2 H2 e2 => h' v2 Z2 H2 (e.trans e2)
    | ex b ρ2 => rw [q] at h'; exact fun Z2 H2 e2 => h' Z2 H2 (e.trans e2)

/-! ### judgements -/
section
variable (X : Cx) (G : Gm) (B : Wish)
def ED (e : Expr) (o : O Va) : Prop := PE X e (Run X.K G B (VaR X.K) o)
def RD (e : Expr) (o : O Rs) : Prop := PE X e (Run X.K G B (RsR X.K G) o)
def TD (e : Expr) (o : O Bool) : Prop := PT X e (Run X.K G B BoR o)
def AD (es : List Expr) (o : O (List Va)) : Prop := PA X es (Run X.K G B (VasR X.K) o)
end
theorem pe_imp {X : Cx} {e : Expr} {t t' : TE} (h : PE X e t) (k : ∀ σ H Q, t' σ H Q → t σ H Q) : PE X e t' := ⟨fun pins s σ H Q I w => h.run pins s σ H Q I (k _ _ _ w)⟩
theorem pt_imp {X : Cx} {e : Expr} {t t' : TT} (h : PT X e t) (k : ∀ σ H Q, t' σ H Q → t σ H Q) : PT X e t' := ⟨fun pins s σ H Q I w => h.run pins s σ H Q I (k _ _ _ w)⟩
theorem pa_imp {X : Cx} {e : List Expr} {t t' : TA} (h : PA X e t) (k : ∀ σ H Q, t' σ H Q → t σ H Q) : PA X e t' := ⟨fun pos pins s σ H Q I w => h.run pos pins s σ H Q I (k _ _ _ w)⟩
theorem ps_imp {X : Cx} {e : Stmt} {t t' : TS} (h : PS X e t) (k : ∀ D σ H, t' D σ H → t D σ H) : PS X e t' := ⟨fun pins s σ H D I w => h.run pins s σ H D I (k _ _ _ w)⟩
theorem pss_imp {X : Cx} {e : List Stmt} {t t' : TS} (h : PSs X e t) (k : ∀ D σ H, t' D σ H → t D σ H) : PSs X e t' := ⟨fun pins s σ H D I w => h.run pins s σ H D I (k _ _ _ w)⟩
theorem pe_alt {X : Cx} {e : Expr} {t t' : TE} (h : PE X e t) (h' : PE X e t') : PE X e (fun σ H Q => t σ H Q ∨ t' σ H Q) := ⟨fun pins s σ H Q I w => w.elim (h.run pins s σ H Q I) (h'.run pins s σ H Q I)⟩
end Ow
namespace Ow
open PySem L2
/-! ### what can be read now -/
def Rdb (K : PySem.W.Frag) (Z H : Hp) (v : V) (d : D) : Prop := Rp K Z v d ∨ ∃ a vs ds, v = .ref a ∧ d = .list ds ∧ H a = some (.lst vs) ∧ RpAll K Z vs ds
def rdV (ρ : Rho) (a : Va) : Option D := match a with
  | .pu d => some d
  | .rf i => match ρ[i]? with
    | some (.ow _ (.li ds)) => some (.list ds)
    | _ => none
@[simp] theorem rdV_pu (ρ : Rho) (d : D) : rdV ρ (.pu d) = some d := rfl
section
variable {K : PySem.W.Frag} {G : Gm} {B : Wish} {Z Z' : Hp} {ρ ρ' : Rho} {σ : St} {H H' : Hp} {v : V} {a : Va} {d : D} {i : Int} {x : Str} {b : Bool} {ds : List D}
theorem VaR.mono (h : VaR K Z ρ σ H v a) (e : Same Z Z') : VaR K Z' ρ' σ H' v a := by
  cases a with
  | pu d => exact Rp.mono h e
  | rf i => exact h
theorem Sim.rdb (S : Sim K G Z ρ σ H) (h : VaR K Z ρ' σ H' v a) (e : rdV ρ a = some d) : Rdb K Z H v d := by
  cases a with
  | pu d' => cases e; exact .inl h
  | rf i =>
    unfold rdV at e
    split at e
    · cases ‹Va.rf i = _›
    · rename_i j h1
      cases h1
      split at e
      · rename_i p ds hr
        cases e
        obtain ⟨a, o, q, ho, r, _⟩ := S.ow i p _ hr
        have h' : σ[i]? = some (some v) := h
        rw [q] at h'
        cases h'
        cases o with
        | lst vs => exact .inr ⟨a, vs, ds, rfl, rfl, ho, r⟩
        | _ => exact r.elim
      · cases e
theorem Rdb.int (h : Rdb K Z H v (.int i)) : v = .int i := by
  rcases h with h | ⟨_, _, _, _, e, _⟩
  · cases h; rfl
  · cases e
theorem Rdb.str (h : Rdb K Z H v (.str x)) : v = .str x := by
  rcases h with h | ⟨_, _, _, _, e, _⟩
  · cases h; rfl
  · cases e
theorem Rdb.bl (h : Rdb K Z H v (.bool b)) : v = .bl b := by
  rcases h with h | ⟨_, _, _, _, e, _⟩
  · cases h; rfl
  · cases e
theorem Rdb.non (h : Rdb K Z H v .none) : v = .non := by
  rcases h with h | ⟨_, _, _, _, e, _⟩
  · cases h; rfl
  · cases e
theorem Rdb.list (h : Rdb K Z H v (.list ds)) (e : Same Z H) : ∃ a vs, v = .ref a ∧ H a = some (.lst vs) ∧ RpAll K Z vs ds := by
  rcases h with h | ⟨a, vs, ds', h1, h2, h3, h4⟩
  · cases h with
    | lst h1 h2 => exact ⟨_, _, rfl, e _ _ h1, h2⟩
  · cases h2; exact ⟨a, vs, h1, h3, h4⟩
theorem Rdb.tup (h : Rdb K Z H v (.tuple ds)) (e : Same Z H) : ∃ a vs, v = .ref a ∧ H a = some (.tup vs) ∧ RpAll K Z vs ds ∧ Rp K Z v (.tuple ds) := by
  rcases h with h | ⟨_, _, _, _, e, _⟩
  · cases h with
    | tup h1 h2 => exact ⟨_, _, rfl, e _ _ h1, h2, .tup h1 h2⟩
  · cases e
theorem Rdb.scr (h : Rdb K Z H v (scr ds)) (e : Same Z H) : ∃ a vs, v = .ref a ∧ SqL K H a vs ∧ RpAll K Z vs ds := by
  rcases h with h | ⟨_, _, _, _, e, _⟩
  · cases h with
    | frz h1 h2 => exact ⟨_, _, rfl, sqL_mono e h1, h2⟩
  · cases e
theorem Rdb.kon (h : Rdb K Z H v (kon ds)) (e : Same Z H) : ∃ a vs, v = .ref a ∧ SqT K H a vs ∧ RpAll K Z vs ds := by
  rcases h with h | ⟨_, _, _, _, e, _⟩
  · cases h with
    | kon h1 h2 => exact ⟨_, _, rfl, sqT_mono e h1, h2⟩
  · cases e
/-- data without the script's word -/
theorem Rdb.dp (h : Rdb K Z H v d) (e : Same Z H) (c : d.canLay0 = true) : Dp K H v d := by
  rcases h with h | ⟨a, vs, ds, rfl, rfl, h3, h4⟩
  · exact (h.mono e).dp c
  · exact .lst (SqL.of h3) ((h4.mono e).dp (by simpa [PyData.canLay0] using c))

/-! ### how a rule's answer goes back -/
def ResG (K : PySem.W.Frag) (Z' H H' : Hp) (v : V) (r : Rs) : Prop := match r with
  | .pu d => Rp K Z' v d
  | .nw c => ∃ a o, v = V.ref a ∧ H a = none ∧ Z' a = none ∧ H' a = some o ∧ CtR K Z' o c
theorem Sim.res (S : Sim K G Z ρ σ H) {r : Rs} (h : ResG K Z' H H' v r) : RsR K G Z' ρ σ H' v r := by
  cases r with
  | pu d => exact h
  | nw c =>
    obtain ⟨a, o, e, n, z, ho, cr⟩ := h
    refine ⟨a, o, e, ho, cr, z, S.freshIn n, fun i p c' hi q => ?_⟩
    obtain ⟨a', o', q', ho', _⟩ := S.ow i p c' hi
    rw [q] at q'
    cases q'
    rw [n] at ho'
    cases ho'
theorem Post.fin {r : Rs} {Q : VK} (p : Post K G B (RsR K G) σ Z (.ok r ρ) Q) (S : Sim K G Z ρ σ H) (g : Grow Z H Z' H') (h : ResG K Z' H H' v r) : Q v H' :=
  p v Z' H' g.z (S.grow g) (S.res h)
theorem Post.finP {d : D} {Q : VK} (p : Post K G B (fun Z ρ σ H v d => Rp K Z v d) σ Z (.ok d ρ) Q) (S : Sim K G Z ρ σ H) (g : Grow Z H Z' H') (h : Rp K Z' v d) : Q v H' :=
  p v Z' H' g.z (S.grow g) h
/-- a new list that nobody changes any more -/
theorem Sim.freezeNew (S : Sim K G Z ρ σ H) {p : Addr} {vs : List V} (h : H p = some (.lst vs)) (z : Z p = none) (n : G.H0 p = none) (hn : ∀ (i : Nat) q c, ρ[i]? = some (Sl.ow q c) → σ[i]? ≠ some (some (V.ref p))) :
    Sim K G (upd Z p (.lst vs)) ρ σ H where
  zz := S.zz.trans (same_upd z _)
  zh := fun b u q => by
    by_cases hb : b = p
    · subst hb; rw [upd_same] at q; cases q; exact h
    · rw [upd_ne hb] at q; exact S.zh _ _ q
  fr := S.fr
  nw := fun b u q => by
    by_cases hb : b = p
    · subst hb; exact .inr n
    · rw [upd_ne hb] at q; exact S.nw _ _ q
  pu := fun i d e => let ⟨v, q, r⟩ := S.pu i d e; ⟨v, q, r.mono (same_upd z _)⟩
  ow := fun i q c e => by
    obtain ⟨a, o, q', ho, r, z', l⟩ := S.ow i q c e
    refine ⟨a, o, q', ho, r.mono (same_upd z _), ?_, l⟩
    rw [upd_ne]
    · exact z'
    · intro e'; subst e'; exact hn i q c e q'
  ne := S.ne
  pin := S.pin
  len := S.len
end
def PuR (K : PySem.W.Frag) : Rel D V := fun Z ρ σ H v d => Rp K Z v d
def PD (X : Cx) (G : Gm) (B : Wish) (e : Expr) (o : O D) : Prop := PE X e (Run X.K G B (PuR X.K) o)

/-! ### from one kind of answer to another -/
def oPu (o : O D) : O Va := fun ρ => (o ρ).bind fun d ρ1 => .ok (.pu d) ρ1
def oRes (o : O D) : O Rs := fun ρ => (o ρ).bind fun d ρ1 => .ok (.pu d) ρ1
def frz1 (r : Rs) (ρ : Rho) : M D := match r with
  | .pu d => .ok d ρ
  | .nw (.li ds) => .ok (.list ds) ρ
  | _ => .st
def oFrz (o : O Rs) : O D := fun ρ => (o ρ).bind frz1
def keep1 (a : Va) (ρ : Rho) : M D := match a with
  | .pu d => .ok d ρ
  | .rf i => match ρ[i]? with
    | some (.ow false (.li ds)) => .ok (.list ds) (ρ.set i (.pu (.list ds)))
    | _ => .st
def oKeep (o : O Va) : O D := fun ρ => (o ρ).bind keep1
@[simp] theorem frz1_pu (d : D) (ρ : Rho) : frz1 (.pu d) ρ = .ok d ρ := rfl
@[simp] theorem frz1_li (ds : List D) (ρ : Rho) : frz1 (.nw (.li ds)) ρ = .ok (.list ds) ρ := rfl
@[simp] theorem keep1_pu (d : D) (ρ : Rho) : keep1 (.pu d) ρ = .ok d ρ := rfl
section
variable {X : Cx} {G : Gm} {B : Wish} {e : Expr}
theorem run_imp {K : PySem.W.Frag} {α α' β β' : Type} {R : Rel α β} {R' : Rel α' β'} {o : O α} {f : α → Rho → M α'} {σ : St} {H : Hp} {Q : β' → Hp → Prop} {C : β → Hp → Prop} (h : Run K G B R' (fun ρ => (o ρ).bind f) σ H Q)
    (k : ∀ x a ρ1 Z1 H1, Sim K G Z1 ρ1 σ H1 → R Z1 ρ1 σ H1 x a → Post K G B R' σ Z1 (f a ρ1) Q → C x H1) : Run K G B R o σ H C := by
  obtain ⟨Z, ρ, S, p⟩ := h
  exact ⟨Z, ρ, S, Post.bind p fun x a ρ1 Z1 H1 _ S1 r p1 => k x a ρ1 Z1 H1 S1 r p1⟩
theorem ed_pd {o : O D} (h : PD X G B e o) : ED X G B e (oPu o) := pe_imp h fun σ H Q w => run_imp w fun x a ρ1 Z1 H1 S1 r p1 => p1 x Z1 H1 (.refl _) S1 r
theorem rd_pd {o : O D} (h : PD X G B e o) : RD X G B e (oRes o) := pe_imp h fun σ H Q w => run_imp w fun x a ρ1 Z1 H1 S1 r p1 => p1 x Z1 H1 (.refl _) S1 r
theorem pd_rd {o : O Rs} (h : RD X G B e o) : PD X G B e (oFrz o) := pe_imp h fun σ H Q w => run_imp w fun x r ρ1 Z1 H1 S1 q p1 => by
  cases r with
  | pu d => exact p1 x Z1 H1 (.refl _) S1 q
  | nw c =>
    cases c with
    | li ds =>
      obtain ⟨a, ho, ev, h1, cr, z, n, hn⟩ := q
      cases ho with
      | lst vs =>
        refine p1 x (upd Z1 a (.lst vs)) H1 (same_upd z _) (S1.freezeNew h1 z n hn) ?_
        subst ev
        exact .lst upd_same (RpAll.mono cr (same_upd z _))
      | _ => exact cr.elim
    | dk kvs => exact p1.elim
    | dt kvs => exact p1.elim
theorem Sim.freezeSlot {K : PySem.W.Frag} {Z : Hp} {ρ : Rho} {σ : St} {H : Hp} {i : Nat} {ds : List D} (S : Sim K G Z ρ σ H) (h : ρ[i]? = some (Sl.ow false (.li ds))) :
    ∃ a vs, σ[i]? = some (some (V.ref a)) ∧ H a = some (.lst vs) ∧ RpAll K Z vs ds ∧ Z a = none ∧ Sim K G (upd Z a (.lst vs)) (ρ.set i (.pu (.list ds))) σ H := by
  obtain ⟨a, o, q, ho, r, z, _, n⟩ := S.ow i _ _ h
  cases o with
  | lst vs =>
    have hi : i < ρ.length := by
      have := List.getElem?_eq_some_iff.mp h
      exact this.1
    have e1 : Same Z (upd Z a (.lst vs)) := same_upd z _
    refine ⟨a, vs, q, ho, r, z, ⟨S.zz.trans e1, fun b u q' => ?_, S.fr, fun b u q' => ?_, fun j d e => ?_, fun j p c e => ?_, fun j k p q' c d hjk e1 e2 => ?_, fun j b hj => ?_, by rw [List.length_set]; exact S.len⟩⟩
    · by_cases hb : b = a
      · subst hb; rw [upd_same] at q'; cases q'; exact ho
      · rw [upd_ne hb] at q'; exact S.zh _ _ q'
    · by_cases hb : b = a
      · subst hb; exact .inr (n rfl)
      · rw [upd_ne hb] at q'; exact S.nw _ _ q'
    · by_cases hj : j = i
      · subst hj
        rw [List.getElem?_set_self hi] at e
        cases e
        exact ⟨_, q, .lst upd_same (RpAll.mono r e1)⟩
      · rw [List.getElem?_set_ne (Ne.symm hj)] at e
        obtain ⟨v, q1, r1⟩ := S.pu j d e
        exact ⟨v, q1, r1.mono e1⟩
    · by_cases hj : j = i
      · subst hj
        rw [List.getElem?_set_self hi] at e
        cases e
      · rw [List.getElem?_set_ne (Ne.symm hj)] at e
        obtain ⟨a', o', q1, h1, r1, z1, l1⟩ := S.ow j p c e
        refine ⟨a', o', q1, h1, r1.mono e1, ?_, l1⟩
        rw [upd_ne]
        · exact z1
        · intro e'
          subst e'
          exact S.ne j i _ _ _ _ hj e h (q1.trans q.symm)
    · have hj : j ≠ i := fun e => by subst e; rw [List.getElem?_set_self hi] at e1; cases e1
      have hk : k ≠ i := fun e => by subst e; rw [List.getElem?_set_self hi] at e2; cases e2
      rw [List.getElem?_set_ne (Ne.symm hj)] at e1
      rw [List.getElem?_set_ne (Ne.symm hk)] at e2
      exact S.ne j k p q' c d hjk e1 e2
    · obtain ⟨q1, c, hc⟩ := S.pin j b hj
      refine ⟨q1, c, ?_⟩
      rw [List.getElem?_set_ne]
      · exact hc
      · intro e; subst e; rw [h] at hc; cases hc
  | _ => exact r.elim
theorem pd_ed {o : O Va} (h : ED X G B e o) : PD X G B e (oKeep o) := pe_imp h fun σ H Q w => run_imp w fun x a ρ1 Z1 H1 S1 q p1 => by
  cases a with
  | pu d => exact p1 x Z1 H1 (.refl _) S1 q
  | rf i =>
    have p2 : Post X.K G B (PuR X.K) σ Z1 (keep1 (.rf i) ρ1) Q := p1
    unfold keep1 at p2
    split at p2
    · cases ‹Va.rf i = _›
    · rename_i j hj
      cases hj
      split at p2
      · rename_i ds hr
        obtain ⟨a, vs, q1, h1, r1, z1, S2⟩ := S1.freezeSlot hr
        have q' : σ[i]? = some (some x) := q
        rw [q1] at q'
        cases q'
        exact p2 _ _ H1 (same_upd z1 _) S2 (.lst upd_same (RpAll.mono r1 (same_upd z1 _)))
      · exact p2.elim
end
/-! ### names, constants -/
def oVar (i : Nat) : O Va := fun ρ => match ρ[i]? with
  | some (.pu d) => .ok (.pu d) ρ
  | some (.ow _ _) => .ok (.rf i) ρ
  | _ => .st
def oC (d : D) : O D := fun ρ => .ok d ρ
section
variable {X : Cx} {G : Gm} {B : Wish} {e : Expr} {pos : Pos} {j : Nat}
theorem ed_var (i : Nat) {x : Str} (hN : X.N[i]? = some x := by rfl) (hv : Vis X.env.scope x := by first | exact Or.inl rfl | exact Or.inr (Or.inl rfl) | exact Or.inr (Or.inr rfl)) (hd : (x == ("__debug__" : Str)) = false := by decide)
    (hcd : (x == ("__classdict__" : Str)) = false := by decide) : ED X G B (.Name x pos) (oVar i) := by
  refine pe_imp (pe_var (i := i) hN hv hd hcd) ?_
  rintro σ H Q ⟨Z, ρ, S, p⟩
  unfold oVar at p
  split at p
  · rename_i d h
    obtain ⟨v, q, r⟩ := S.pu i d h
    exact ⟨v, q, p v Z H (.refl _) S r⟩
  · rename_i b c h
    obtain ⟨a, o, q, _⟩ := S.ow i b c h
    exact ⟨_, q, p _ Z H (.refl _) S q⟩
  · exact p.elim
theorem pd_const {v : V} {d : D} (h : PE X e (tC v)) (r : ∀ Z, Rp X.K Z v d) : PD X G B e (oC d) := pe_imp h fun σ H Q ⟨Z, ρ, S, p⟩ => p v Z H (.refl _) S (r Z)
theorem pd_int {i : Int} {k} : PD X G B (.Constant (.int i) k pos) (oC (.int i)) := pd_const pe_int fun _ => .int i
theorem pd_bool {i : Bool} {k} : PD X G B (.Constant (.bool i) k pos) (oC (.bool i)) := pd_const pe_bl fun _ => .bl i
theorem pd_none {k} : PD X G B (.Constant .none k pos) (oC .none) := pd_const pe_non fun _ => .non
theorem pd_str {x : Str} {k} : PD X G B (.Constant (.str x) k pos) (oC (.str x)) := pd_const pe_str fun _ => .str x
end
/-! ### operators -/
/-- a rule of two values, by data -/
def BinS (K : PySem.W.Frag) (r : R2) (f : D → D → Option Rs) : Prop := ∀ (x y : V) (dx dy : D) (R : Rs) (Z H : Hp) (Q : VK), Same Z H → Rdb K Z H x dx → Rdb K Z H y dy → f dx dy = some R →
  (∀ v Z' H', Grow Z H Z' H' → ResG K Z' H H' v R → Q v H') → r x y H Q
def bin1 (f : D → D → Option Rs) (a b : Va) (ρ : Rho) : M Rs := match rdV ρ a, rdV ρ b with
  | some dx, some dy => match f dx dy with
    | some r => .ok r ρ
    | none => .st
  | _, _ => .st
@[simp] theorem bin1_pu (f : D → D → Option Rs) (a b : D) (ρ : Rho) : bin1 f (.pu a) (.pu b) ρ = match f a b with | some r => .ok r ρ | none => .st := rfl
def oBin (f : D → D → Option Rs) (oa ob : O Va) : O Rs := fun ρ => (oa ρ).bind fun a ρ1 => (ob ρ1).bind fun b ρ2 => bin1 f a b ρ2
section
variable {X : Cx} {G : Gm} {B : Wish} {a b : Expr} {pos : Pos} {oa ob : O Va}
theorem run_bin {K : PySem.W.Frag} {r : R2} {f : D → D → Option Rs} (hf : BinS K r f) {σ : St} {H : Hp} {Q : VK} (w : Run K G B (RsR K G) (oBin f oa ob) σ H Q) : tOp r (Run K G B (VaR K) oa) (Run K G B (VaR K) ob) σ H Q := by
  obtain ⟨Z, ρ, S, p⟩ := w
  refine ⟨Z, ρ, S, Post.bind p fun x a ρ1 Z1 H1 e1 S1 r1 p1 => ⟨Z1, ρ1, S1, Post.bind p1 fun y b ρ2 Z2 H2 e2 S2 r2 p2 => ?_⟩⟩
  unfold bin1 at p2
  split at p2
  · rename_i dx dy hx hy
    split at p2
    · rename_i R hR
      exact hf x y dx dy R Z2 H2 Q S2.zh (S2.rdb (r1.mono (ρ' := ρ2) (H' := H2) e2) hx) (S2.rdb r2 hy) hR fun v Z' H' g h => p2.fin S2 g h
    · exact p2.elim
  · exact p2.elim
theorem rd_bin {op : Operator} {r : R2} {f : D → D → Option Rs} (ho : OpR X (binaryOp op) r) (hf : BinS X.K r f) (ha : ED X G B a oa) (hb : ED X G B b ob) : RD X G B (.BinOp a op b pos) (oBin f oa ob) :=
  pe_imp (pe_op ho ha hb) fun _ _ _ w => run_bin hf w
theorem rd_cmp {op : CmpOp} {r : R2} {f : D → D → Option Rs} (ho : OpR X (compareOp op) r) (hf : BinS X.K r f) (hm : behindInMarks op b = false) (ha : ED X G B a oa) (hb : ED X G B b ob) : RD X G B (.Compare a [op] [b] pos) (oBin f oa ob) :=
  pe_imp (pe_cmpR ho ha hb hm) fun _ _ _ w => run_bin hf w
end
end Ow
namespace Ow
open PySem L2
/-- products, quotients: what the model's rules ask of the sizes -/
def mulOk (i j : Int) : Bool := decide ((-(2 ^ 64) < i ∧ i < 2 ^ 64) ∨ (-(2 ^ 64) < j ∧ j < 2 ^ 64))
def divOk (i j : Int) : Bool := decide (0 < j ∧ j.natAbs.log2 < 9000)
theorem mulOk_c {i j : Int} (h : mulOk i j = true) : CMul i j := by
  unfold mulOk at h
  have q := of_decide_eq_true h
  exact q
theorem divOk_c {i j : Int} (h : divOk i j = true) : CDivW i j := by
  unfold divOk at h
  have q := of_decide_eq_true h
  exact q
/-- + -/
def fAdd : D → D → Option Rs
  | .int i, .int j => some (.pu (.int (i + j)))
  | .str i, .str j => if i.length + j.length ≤ 16000000 then some (.pu (.str (i ++ j))) else none
  | .list xs, .list ys => if xs.length + ys.length ≤ 16000000 then some (.nw (.li (xs ++ ys))) else none
  | .tuple xs, .tuple ys => if xs.length + ys.length ≤ 16000000 then some (.pu (.tuple (xs ++ ys))) else none
  | _, _ => none
def fInt2 (g : Int → Int → Int) : D → D → Option Rs
  | .int i, .int j => some (.pu (.int (g i j)))
  | _, _ => none
def fSub := fInt2 fun i j => i - j
def fAnd := fInt2 Builtin.bitAnd
def fOr := fInt2 Builtin.bitOr
def fXor := fInt2 Builtin.bitXor
def fMul : D → D → Option Rs
  | .int i, .int j => if mulOk i j then some (.pu (.int (i * j))) else none
  | .list xs, .int k => if 0 ≤ k ∧ xs.length * k.toNat ≤ 16000000 ∧ k < 1000000 then some (.nw (.li (List.replicate k.toNat xs).flatten)) else none
  | _, _ => none
def fDiv : D → D → Option Rs
  | .int i, .int j => if divOk i j then some (.pu (.int (i / j))) else none
  | _, _ => none
def fMod : D → D → Option Rs
  | .int i, .int j => if 0 < j then some (.pu (.int (i % j))) else none
  | _, _ => none
def fPow : D → D → Option Rs
  | .int i, .int j => if 0 ≤ j ∧ j ≤ 1000000 ∧ i.natAbs < 2 ^ 64 then some (.pu (.int (i ^ j.toNat))) else none
  | _, _ => none
def fShl : D → D → Option Rs
  | .int i, .int j => if 0 ≤ j ∧ j ≤ 1000000 ∧ i.natAbs < 2 ^ 64 then some (.pu (.int (i * 2 ^ j.toNat))) else none
  | _, _ => none
def fShr : D → D → Option Rs
  | .int i, .int j => if 0 ≤ j then some (.pu (.int (i / 2 ^ j.toNat))) else none
  | _, _ => none
/-- comparisons -/
def fEq (a b : D) : Option Rs := if SeqAt.shaped a = true ∧ SeqAt.shaped b = true then some (.pu (.bool (PyData.eqv a b))) else none
def fNe (a b : D) : Option Rs := if SeqAt.shaped a = true ∧ SeqAt.shaped b = true then some (.pu (.bool (!PyData.eqv a b))) else none
def fCmp (g : Int → Int → Bool) : D → D → Option Rs
  | .int i, .int j => some (.pu (.bool (g i j)))
  | _, _ => none
def fLt := fCmp fun i j => decide (i < j)
def fLe := fCmp fun i j => decide (i ≤ j)
def fGt := fCmp fun i j => decide (j < i)
def fGe := fCmp fun i j => decide (j ≤ i)
def fIsN (neg : Bool) : D → D → Option Rs
  | .none, .none => some (.pu (.bool (!neg)))
  | .bool _, .none | .int _, .none | .str _, .none | .list _, .none | .tuple _, .none => some (.pu (.bool neg))
  | _, _ => none
def flatD : D → Bool
  | .none | .bool _ | .int _ | .str _ => true
  | _ => false
/-- in: flat things in lists and tuples; a sign, a text in a text -/
def inD (x : D) (ys : List D) : Bool := ys.any fun y => PyData.eqv y x
def inT (x y : Str) : Bool := if x.cps.size = 1 then decide (x.cps.getD 0 0 ∈ y.cps.toList) else !(Builtin.Str.occurrences y x 0 y.length 1).isEmpty
def fIn (neg : Bool) : D → D → Option Rs
  | x, .list ys => if flatD x = true ∧ ys.all flatD = true then some (.pu (.bool (if neg then !inD x ys else inD x ys))) else none
  | x, .tuple ys => if flatD x = true ∧ ys.all flatD = true then some (.pu (.bool (if neg then !inD x ys else inD x ys))) else none
  | x, .dict [(.bool true, .tuple ys)] => if flatD x = true ∧ ys.all flatD = true then some (.pu (.bool (if neg then !inD x ys else inD x ys))) else none
  | .str x, .str y => some (.pu (.bool (if neg then !inT x y else inT x y)))
  | _, _ => none
section
variable {K : PySem.W.Frag} {X : Cx}
theorem lim_le {n : Nat} (h : n ≤ 16000000) : n ≤ sizeLine := Nat.le_trans h (by decide)
theorem lim_lt {n : Nat} (h : n < 16000000) : n < sizeLine := Nat.lt_of_lt_of_le h (by decide)
theorem binS_int {g : Int → Int → Int} : BinS K (rI0 fun i j => .int (g i j)) (fInt2 g) := by
  intro x y dx dy R Z H Q e rx ry hf k
  unfold fInt2 at hf
  split at hf
  · cases hf
    exact ⟨_, _, rx.int, ry.int, k _ Z H (.refl e) (.int _)⟩
  · cases hf
theorem binS_intC {C : Int → Int → Prop} {g : Int → Int → Int} {f : D → D → Option Rs} (hf : ∀ a b R, f a b = some R → ∃ i j, a = .int i ∧ b = .int j ∧ C i j ∧ R = .pu (.int (g i j))) : BinS K (rI C fun i j => .int (g i j)) f := by
  intro x y dx dy R Z H Q e rx ry h k
  obtain ⟨i, j, rfl, rfl, c, rfl⟩ := hf _ _ _ h
  exact ⟨_, _, rx.int, ry.int, c, k _ Z H (.refl e) (.int _)⟩
theorem binS_cmp {g : Int → Int → Bool} : BinS K (rI0 fun i j => .bl (g i j)) (fCmp g) := by
  intro x y dx dy R Z H Q e rx ry hf k
  unfold fCmp at hf
  split at hf
  · cases hf
    exact ⟨_, _, rx.int, ry.int, k _ Z H (.refl e) (.bl _)⟩
  · cases hf
abbrev rAddAll (K : PySem.W.Frag) : R2 := fun x y H Q => rI0 (fun i j => .int (i + j)) x y H Q ∨ (fun x y H Q => (fun x y H Q => ∃ i j, x = V.str i ∧ y = V.str j ∧ i.length + j.length ≤ sizeLine ∧ Q (V.str (i ++ j)) H) x y H Q ∨ (fun x y H Q => rCat x y H Q ∨ rCatA K x y H Q) x y H Q) x y H Q
theorem op_addAll : OpR X (binaryOp .Add) (rAddAll X.K) := op_add.or (op_add_str.or (op_cat.or op_catA))
theorem new_ne {H : Hp} {p : Addr} {a : Addr} {o : HO} (h : H a = some o) (n : H p = none) : a ≠ p := ne_of_none h n
theorem binS_add : BinS K (rAddAll K) fAdd := by
  intro x y dx dy R Z H Q e rx ry hf k
  unfold fAdd at hf
  split at hf
  · cases hf
    exact .inl ⟨_, _, rx.int, ry.int, k _ Z H (.refl e) (.int _)⟩
  · split at hf
    · cases hf
      exact .inr (.inl ⟨_, _, rx.str, ry.str, lim_le ‹_›, k _ Z H (.refl e) (.str _)⟩)
    · cases hf
  · split at hf
    · cases hf
      rename_i xs ys hz
      obtain ⟨a, vs, rfl, ha, ra⟩ := rx.list e
      obtain ⟨b, ws, rfl, hb, rb⟩ := ry.list e
      refine .inr (.inr (.inl ⟨a, b, vs, ws, rfl, rfl, ha, hb, by rw [ra.length, rb.length]; exact lim_le hz, fun p hp => ?_⟩))
      exact k _ Z _ (.loose e hp _) ⟨p, _, rfl, hp, none_of_same e hp, upd_same, ra.append rb⟩
    · cases hf
  · split at hf
    · cases hf
      rename_i xs ys hz
      obtain ⟨a, vs, rfl, ha, ra, qa⟩ := rx.tup e
      obtain ⟨b, ws, rfl, hb, rb, qb⟩ := ry.tup e
      refine .inr (.inr (.inr ⟨a, b, vs, ws, rfl, rfl, SqT.of ha, SqT.of hb, by rw [ra.length, rb.length]; exact lim_le hz, fun h0 => ?_, fun h0 h1 => ?_, fun h0 h1 p hp => ?_⟩))
      · subst h0; cases ra; exact k _ Z H (.refl e) qb
      · subst h1; cases rb; rw [List.append_nil] at k; exact k _ Z H (.refl e) qa
      · refine k _ _ _ (.still e hp _) ?_
        have e1 : Same Z (upd Z p (.tup (vs ++ ws))) := same_upd (none_of_same e hp) _
        exact .tup upd_same ((ra.append rb).mono e1)
    · cases hf
  · cases hf
abbrev rMulAll : R2 := fun x y H Q => rI CMul (fun i j => .int (i * j)) x y H Q ∨ rRep x y H Q
theorem op_mulAll : OpR X (binaryOp .Mult) rMulAll := op_mul.or op_rep
theorem binS_mul : BinS K rMulAll fMul := by
  intro x y dx dy R Z H Q e rx ry hf k
  unfold fMul at hf
  split at hf
  · split at hf
    · cases hf
      rename_i h
      exact .inl ⟨_, _, rx.int, ry.int, mulOk_c h, k _ Z H (.refl e) (.int _)⟩
    · cases hf
  · split at hf
    · cases hf
      rename_i xs n h
      obtain ⟨a, vs, rfl, ha, ra⟩ := rx.list e
      refine .inr ⟨a, n, vs, rfl, ry.int, ha, by omega, by omega, by rw [ra.length]; exact lim_le h.2.1, fun p hp => ?_⟩
      refine k _ Z _ (.loose e hp _) ⟨p, _, rfl, hp, none_of_same e hp, upd_same, ?_⟩
      show RpAll K Z (List.replicate n.toNat vs).flatten (List.replicate n.toNat xs).flatten
      induction n.toNat with
      | zero => exact .nil
      | succ m ih => rw [List.replicate_succ, List.replicate_succ, List.flatten_cons, List.flatten_cons]; exact ra.append ih
    · cases hf
  · cases hf
theorem binS_div : BinS K (rI CDivW fun i j => .int (i / j)) fDiv := binS_intC fun a b R h => by
  unfold fDiv at h
  split at h
  · split at h
    · cases h; rename_i hd; exact ⟨_, _, rfl, rfl, divOk_c hd, rfl⟩
    · cases h
  · cases h
theorem binS_mod : BinS K (rI (fun _ j => 0 < j) fun i j => .int (i % j)) fMod := binS_intC fun a b R h => by
  unfold fMod at h
  split at h
  · split at h
    · cases h; exact ⟨_, _, rfl, rfl, ‹_›, rfl⟩
    · cases h
  · cases h
theorem binS_pow : BinS K (rI CPow fun i j => .int (i ^ j.toNat)) fPow := binS_intC fun a b R h => by
  unfold fPow at h
  split at h
  · split at h
    · cases h; exact ⟨_, _, rfl, rfl, ‹_›, rfl⟩
    · cases h
  · cases h
theorem binS_shl : BinS K (rI CPow fun i j => .int (i * 2 ^ j.toNat)) fShl := binS_intC fun a b R h => by
  unfold fShl at h
  split at h
  · split at h
    · cases h; exact ⟨_, _, rfl, rfl, ‹_›, rfl⟩
    · cases h
  · cases h
theorem binS_shr : BinS K (rI (fun _ j => 0 ≤ j) fun i j => .int (i / 2 ^ j.toNat)) fShr := binS_intC fun a b R h => by
  unfold fShr at h
  split at h
  · split at h
    · cases h; exact ⟨_, _, rfl, rfl, ‹_›, rfl⟩
    · cases h
  · cases h
theorem shaped_lay {d : D} (h : SeqAt.shaped d = true) : d.canLay0 = true := SeqAt.canLay_of_shaped h
theorem binS_eq : BinS K (rEqD K) fEq := by
  intro x y dx dy R Z H Q e rx ry hf k
  unfold fEq at hf
  split at hf
  · cases hf
    rename_i h
    exact ⟨dx, dy, rx.dp e (shaped_lay h.1), ry.dp e (shaped_lay h.2), h.1, h.2, k _ Z H (.refl e) (.bl _)⟩
  · cases hf
theorem binS_ne : BinS K (rNeD K) fNe := by
  intro x y dx dy R Z H Q e rx ry hf k
  unfold fNe at hf
  split at hf
  · cases hf
    rename_i h
    exact ⟨dx, dy, rx.dp e (shaped_lay h.1), ry.dp e (shaped_lay h.2), h.1, h.2, k _ Z H (.refl e) (.bl _)⟩
  · cases hf
theorem Rdb.nonI {Z H : Hp} {v : V} {d : D} (h : Rdb K Z H v d) (c : ∃ R, fIsN false d .none = some R) : decide (v = .non) = (match d with | .none => true | _ => false) := by
  rcases h with h | ⟨a, vs, ds, rfl, rfl, _⟩
  · cases h <;> first | rfl | (obtain ⟨R, c⟩ := c; cases c) | simp
  · simp
theorem binS_isN : BinS K rIsN (fIsN false) := by
  intro x y dx dy R Z H Q e rx ry hf k
  have c : ∃ R, fIsN false dx .none = some R := by
    unfold fIsN at hf ⊢
    split at hf <;> first | exact ⟨_, rfl⟩ | cases hf
  have n := rx.nonI c
  have hy : y = .non := by
    unfold fIsN at hf
    split at hf <;> first | exact ry.non | cases hf
  refine ⟨hy, ?_⟩
  rw [n]
  unfold fIsN at hf
  split at hf <;> first | (cases hf; exact k _ Z H (.refl e) (.bl _)) | cases hf
theorem binS_notN : BinS K rNotN (fIsN true) := by
  intro x y dx dy R Z H Q e rx ry hf k
  have c : ∃ R, fIsN false dx .none = some R := by
    unfold fIsN at hf ⊢
    split at hf <;> first | exact ⟨_, rfl⟩ | cases hf
  have n := rx.nonI c
  have hy : y = .non := by
    unfold fIsN at hf
    split at hf <;> first | exact ry.non | cases hf
  refine ⟨hy, ?_⟩
  rw [n]
  unfold fIsN at hf
  split at hf <;> first | (cases hf; exact k _ Z H (.refl e) (.bl _)) | cases hf
theorem Rp.flat {Z : Hp} {v : V} {d : D} (h : Rp K Z v d) (c : flatD d = true) : flatV v = true := by
  cases h <;> first | rfl | cases c
theorem Rdb.flat {Z H : Hp} {v : V} {d : D} (h : Rdb K Z H v d) (c : flatD d = true) : flatV v = true ∧ Rp K Z v d := by
  rcases h with h | ⟨_, _, _, _, rfl, _⟩
  · exact ⟨h.flat c, h⟩
  · cases c
theorem RpAll.flat {Z : Hp} : ∀ {vs : List V} {ds : List D}, RpAll K Z vs ds → ds.all flatD = true → vs.all flatV = true
  | _, [], h, _ => by cases h; rfl
  | _, d :: ds, h, c => by
    cases h with
    | cons h1 h2 =>
      simp only [List.all_cons, Bool.and_eq_true] at c ⊢
      exact ⟨h1.flat c.1, h2.flat c.2⟩
theorem eqv_flat {Z : Hp} {v w : V} {d e : D} (h : Rp K Z v d) (g : Rp K Z w e) (c : flatD d = true) (c' : flatD e = true) : eqV v w = PyData.eqv d e := by
  cases h <;> cases g <;> first | (simp [eqV, PyData.eqv]; done) | exact absurd c (by simp [flatD]) | exact absurd c' (by simp [flatD])
theorem inV_inD {Z : Hp} {v : V} {d : D} (h : Rp K Z v d) (c : flatD d = true) : ∀ {vs : List V} {ds : List D}, RpAll K Z vs ds → ds.all flatD = true → inV v vs = inD d ds
  | _, [], g, _ => by cases g; rfl
  | _, e :: ds, g, q => by
    cases g with
    | cons g1 g2 =>
      simp only [List.all_cons, Bool.and_eq_true] at q
      have ih := inV_inD h c g2 q.2
      unfold inV inD at ih ⊢
      rw [List.any_cons, List.any_cons, ih, eqv_flat g1 h q.1 c]
abbrev rInAll (K : PySem.W.Frag) (neg : Bool) : R2 := fun x y H Q => rIn K neg x y H Q ∨ (fun x y H Q => (if neg = true then rNotInS else rInS) x y H Q ∨ (fun x y H Q => ∃ i j, x = V.str i ∧ y = V.str j ∧ Q (V.bl (if neg then !(!(Builtin.Str.occurrences j i 0 j.length 1).isEmpty) else (!(Builtin.Str.occurrences j i 0 j.length 1).isEmpty))) H) x y H Q) x y H Q
theorem op_inAll : OpR X (compareOp .In) (rInAll X.K false) := by
  have h := (op_in_seq (X := X)).or ((op_inS (X := X)).or (op_in_str (X := X)))
  exact h
theorem op_notInAll : OpR X (compareOp .NotIn) (rInAll X.K true) := by
  have h := (op_notIn_seq (X := X)).or ((op_notInS (X := X)).or (op_notin_str (X := X)))
  exact h
theorem one_sign {x : Str} (h : x.cps.size = 1) : x = ⟨#[x.cps.getD 0 0]⟩ := by
  obtain ⟨⟨l⟩⟩ := x
  match l, h with
  | [c], _ => rfl
theorem binS_in {neg : Bool} : BinS K (rInAll K neg) (fIn neg) := by
  intro x y dx dy R Z H Q e rx ry hf k
  unfold fIn at hf
  split at hf
  · split at hf
    · cases hf
      rename_i ys h
      obtain ⟨a, vs, rfl, ha, ra⟩ := ry.list e
      obtain ⟨fx, px⟩ := rx.flat h.1
      refine .inl ⟨a, vs, rfl, .inl (SqL.of ha), fx, ra.flat h.2, ?_⟩
      rw [inV_inD px h.1 ra h.2]
      exact k _ Z H (.refl e) (.bl _)
    · cases hf
  · split at hf
    · cases hf
      rename_i ys h
      obtain ⟨a, vs, rfl, ha, ra, _⟩ := ry.tup e
      obtain ⟨fx, px⟩ := rx.flat h.1
      refine .inl ⟨a, vs, rfl, .inr (SqT.of ha), fx, ra.flat h.2, ?_⟩
      rw [inV_inD px h.1 ra h.2]
      exact k _ Z H (.refl e) (.bl _)
    · cases hf
  · split at hf
    · cases hf
      rename_i ys h
      obtain ⟨a, vs, rfl, ha, ra⟩ := ry.kon e
      obtain ⟨fx, px⟩ := rx.flat h.1
      refine .inl ⟨a, vs, rfl, .inr ha, fx, ra.flat h.2, ?_⟩
      rw [inV_inD px h.1 ra h.2]
      exact k _ Z H (.refl e) (.bl _)
    · cases hf
  · rename_i i j
    cases hf
    have k' := k _ Z H (.refl e) (.bl _)
    by_cases h1 : i.cps.size = 1
    · refine .inr (.inl ?_)
      have q : inT i j = decide (i.cps.getD 0 0 ∈ j.cps.toList) := by unfold inT; rw [if_pos h1]
      rw [q] at k'
      cases neg with
      | true =>
        show rNotInS x y H Q
        exact ⟨_, j, by rw [rx.str, ← one_sign h1], ry.str, k'⟩
      | false =>
        show rInS x y H Q
        exact ⟨_, j, by rw [rx.str, ← one_sign h1], ry.str, k'⟩
    · refine .inr (.inr ⟨i, j, rx.str, ry.str, ?_⟩)
      have q : inT i j = (!(Builtin.Str.occurrences j i 0 j.length 1).isEmpty) := by unfold inT; rw [if_neg h1]
      rw [q] at k'
      exact k'
  · cases hf
end
/-! ### unary -/
def UnS (K : PySem.W.Frag) (r : V → Hp → VK → Prop) (f : D → Option Rs) : Prop := ∀ (x : V) (dx : D) (R : Rs) (Z H : Hp) (Q : VK), Same Z H → Rdb K Z H x dx → f dx = some R →
  (∀ v Z' H', Grow Z H Z' H' → ResG K Z' H H' v R → Q v H') → r x H Q
def un1 (f : D → Option Rs) (a : Va) (ρ : Rho) : M Rs := match rdV ρ a with
  | some dx => match f dx with
    | some r => .ok r ρ
    | none => .st
  | _ => .st
@[simp] theorem un1_pu (f : D → Option Rs) (a : D) (ρ : Rho) : un1 f (.pu a) ρ = match f a with | some r => .ok r ρ | none => .st := rfl
def oUn (f : D → Option Rs) (oa : O Va) : O Rs := fun ρ => (oa ρ).bind (un1 f)
def fNeg : D → Option Rs
  | .int i => some (.pu (.int (-i)))
  | _ => none
section
variable {X : Cx} {G : Gm} {B : Wish} {a b : Expr} {pos : Pos} {oa ob : O Va}
theorem run_un {K : PySem.W.Frag} {r : V → Hp → VK → Prop} {f : D → Option Rs} (hf : UnS K r f) {σ : St} {H : Hp} {Q : VK} (w : Run K G B (RsR K G) (oUn f oa) σ H Q) : Run K G B (VaR K) oa σ H fun x H1 => r x H1 Q := by
  obtain ⟨Z, ρ, S, p⟩ := w
  refine ⟨Z, ρ, S, Post.bind p fun x a ρ1 Z1 H1 e1 S1 r1 p1 => ?_⟩
  unfold un1 at p1
  split at p1
  · rename_i dx hx
    split at p1
    · rename_i R hR
      exact hf x dx R Z1 H1 Q S1.zh (S1.rdb r1 hx) hR fun v Z' H' g h => p1.fin S1 g h
    · exact p1.elim
  · exact p1.elim
theorem rd_un {op : UnaryOp} {r : V → Hp → VK → Prop} {f : D → Option Rs} (ho : UnR X (unaryOp op) r) (hf : UnS X.K r f) (ha : ED X G B a oa) : RD X G B (.UnaryOp op a pos) (oUn f oa) :=
  pe_imp (pe_un ho ha) fun _ _ _ w => run_un hf w
theorem unS_neg {K : PySem.W.Frag} : UnS K (rU fun i => .int (-i)) fNeg := by
  intro x dx R Z H Q e rx hf k
  unfold fNeg at hf
  split at hf
  · cases hf; exact ⟨_, rx.int, k _ Z H (.refl e) (.int _)⟩
  · cases hf
/-! ### the operators by name -/
theorem rd_add (ha : ED X G B a oa) (hb : ED X G B b ob) : RD X G B (.BinOp a .Add b pos) (oBin fAdd oa ob) := rd_bin op_addAll binS_add ha hb
theorem rd_sub (ha : ED X G B a oa) (hb : ED X G B b ob) : RD X G B (.BinOp a .Sub b pos) (oBin fSub oa ob) := rd_bin op_sub binS_int ha hb
theorem rd_mul (ha : ED X G B a oa) (hb : ED X G B b ob) : RD X G B (.BinOp a .Mult b pos) (oBin fMul oa ob) := rd_bin op_mulAll binS_mul ha hb
theorem rd_fdiv (ha : ED X G B a oa) (hb : ED X G B b ob) : RD X G B (.BinOp a .FloorDiv b pos) (oBin fDiv oa ob) := rd_bin op_fdivW binS_div ha hb
theorem rd_mod (ha : ED X G B a oa) (hb : ED X G B b ob) : RD X G B (.BinOp a .Mod b pos) (oBin fMod oa ob) := rd_bin op_mod binS_mod ha hb
theorem rd_pow (ha : ED X G B a oa) (hb : ED X G B b ob) : RD X G B (.BinOp a .Pow b pos) (oBin fPow oa ob) := rd_bin op_pow binS_pow ha hb
theorem rd_shl (ha : ED X G B a oa) (hb : ED X G B b ob) : RD X G B (.BinOp a .LShift b pos) (oBin fShl oa ob) := rd_bin op_shl binS_shl ha hb
theorem rd_shr (ha : ED X G B a oa) (hb : ED X G B b ob) : RD X G B (.BinOp a .RShift b pos) (oBin fShr oa ob) := rd_bin op_shr binS_shr ha hb
theorem rd_band (ha : ED X G B a oa) (hb : ED X G B b ob) : RD X G B (.BinOp a .BitAnd b pos) (oBin fAnd oa ob) := rd_bin op_and binS_int ha hb
theorem rd_bor (ha : ED X G B a oa) (hb : ED X G B b ob) : RD X G B (.BinOp a .BitOr b pos) (oBin fOr oa ob) := rd_bin op_or binS_int ha hb
theorem rd_bxor (ha : ED X G B a oa) (hb : ED X G B b ob) : RD X G B (.BinOp a .BitXor b pos) (oBin fXor oa ob) := rd_bin op_xor binS_int ha hb
theorem rd_neg (ha : ED X G B a oa) : RD X G B (.UnaryOp .USub a pos) (oUn fNeg oa) := rd_un un_neg unS_neg ha
/-- a comparison's rule, for values and for tests -/
structure CmpK (X : Cx) (op : CmpOp) (r : R2) (f : D → D → Option Rs) : Prop where
  o : OpR X (compareOp op) r
  s : BinS X.K r f
theorem ck_eq {k : Nat} (hr : Room k X.A) : CmpK X .Eq (rEqD X.K) fEq := ⟨op_eqD hr.units, binS_eq⟩
theorem ck_ne {k : Nat} (hr : Room k X.A) : CmpK X .NotEq (rNeD X.K) fNe := ⟨op_neD hr.units, binS_ne⟩
theorem ck_lt : CmpK X .Lt (rI0 fun i j => .bl (decide (i < j))) fLt := ⟨op_lt, binS_cmp⟩
theorem ck_le : CmpK X .LtE (rI0 fun i j => .bl (decide (i ≤ j))) fLe := ⟨op_le, binS_cmp⟩
theorem ck_gt : CmpK X .Gt (rI0 fun i j => .bl (decide (j < i))) fGt := ⟨op_gt, binS_cmp⟩
theorem ck_ge : CmpK X .GtE (rI0 fun i j => .bl (decide (j ≤ i))) fGe := ⟨op_ge, binS_cmp⟩
theorem ck_is : CmpK X .Is rIsN (fIsN false) := ⟨op_isN, binS_isN⟩
theorem ck_isnot : CmpK X .IsNot rNotN (fIsN true) := ⟨op_notN, binS_notN⟩
theorem ck_in : CmpK X .In (rInAll X.K false) (fIn false) := ⟨op_inAll, binS_in⟩
theorem ck_notin : CmpK X .NotIn (rInAll X.K true) (fIn true) := ⟨op_notInAll, binS_in⟩
theorem rd_ck {op : CmpOp} {r : R2} {f : D → D → Option Rs} (c : CmpK X op r f) (ha : ED X G B a oa) (hb : ED X G B b ob) (hm : behindInMarks op b = false := by first | exact nomark _ | rfl) : RD X G B (.Compare a [op] [b] pos) (oBin f oa ob) := rd_cmp c.o c.s hm ha hb
end
end Ow
namespace Ow
open PySem L2
/-! ### tests -/
def tst1 (r : Rs) (ρ : Rho) : M Bool := match r with
  | .pu (.bool b) => .ok b ρ
  | _ => .st
@[simp] theorem tst1_b (b : Bool) (ρ : Rho) : tst1 (.pu (.bool b)) ρ = .ok b ρ := rfl
def oTst (o : O Rs) : O Bool := fun ρ => (o ρ).bind tst1
def fTru : D → Option Bool
  | .none => some false
  | .bool b => some b
  | .int i => some (i != 0)
  | .str x => if x.length ≤ 16000000 then some (x.length != 0) else none
  | .list xs => some (!xs.isEmpty)
  | .tuple xs => some (!xs.isEmpty)
  | .dict _ => none
def tru1 (a : Va) (ρ : Rho) : M Bool := match a with
  | .pu d => match fTru d with
    | some b => .ok b ρ
    | none => .st
  | .rf i => match ρ[i]? with
    | some (.ow _ (.li ds)) => .ok (!ds.isEmpty) ρ
    | some (.ow _ (.dk kvs)) => .ok (!kvs.isEmpty) ρ
    | _ => .st
@[simp] theorem tru1_pu (d : D) (ρ : Rho) : tru1 (.pu d) ρ = match fTru d with | some b => .ok b ρ | none => .st := rfl
def oTru (o : O Va) : O Bool := fun ρ => (o ρ).bind tru1
def oAnd (a b : O Bool) : O Bool := fun ρ => (a ρ).bind fun c ρ1 => if c = true then b ρ1 else .ok false ρ1
def oOr (a b : O Bool) : O Bool := fun ρ => (a ρ).bind fun c ρ1 => if c = true then .ok true ρ1 else b ρ1
def oNot (a : O Bool) : O Bool := fun ρ => (a ρ).bind fun c ρ1 => .ok (!c) ρ1
def oBl (a : O Bool) : O D := fun ρ => (a ρ).bind fun c ρ1 => .ok (.bool c) ρ1
def oIf {α : Type} (c : O Bool) (a b : O α) : O α := fun ρ => (c ρ).bind fun t ρ1 => if t = true then a ρ1 else b ρ1
def bl1 (d : D) (f : Bool → M D) : M D := match d with
  | .bool c => f c
  | _ => .st
@[simp] theorem bl1_b (c : Bool) (f : Bool → M D) : bl1 (.bool c) f = f c := rfl
def oAndV (a b : O D) : O D := fun ρ => (a ρ).bind fun d ρ1 => bl1 d fun c => if c = true then b ρ1 else .ok (.bool false) ρ1
def oOrV (a b : O D) : O D := fun ρ => (a ρ).bind fun d ρ1 => bl1 d fun c => if c = true then .ok (.bool true) ρ1 else b ρ1
def oNotV (a : O D) : O D := fun ρ => (a ρ).bind fun d ρ1 => bl1 d fun c => .ok (.bool (!c)) ρ1
def WD (X : Cx) (G : Gm) (B : Wish) (e : Expr) (o : O Bool) : Prop := PW X e (Run X.K G B BoR o)
section
variable {X : Cx} {G : Gm} {B : Wish} {a b c e : Expr} {rest : List Expr} {pos : Pos} {ta tb tc : O Bool} {oa ob oc : O Va}
theorem run_tst {K : PySem.W.Frag} {o : O Rs} {σ : St} {H : Hp} {Q : Bool → Hp → Prop} (w : Run K G B BoR (oTst o) σ H Q) : Run K G B (RsR K G) o σ H fun x H1 => ∃ k, x = .bl k ∧ Q k H1 :=
  run_imp w fun x r ρ1 Z1 H1 S1 q p1 => by
    unfold tst1 at p1
    split at p1
    · rename_i b
      have q' : Rp K Z1 x (.bool b) := q
      cases q'
      exact ⟨b, rfl, p1 b Z1 H1 (.refl _) S1 rfl⟩
    · exact p1.elim
theorem td_ck {op : CmpOp} {r : R2} {f : D → D → Option Rs} (k : CmpK X op r f) (ha : ED X G B a oa) (hb : ED X G B b ob) (hm : behindInMarks op b = false := by first | exact nomark _ | rfl) : TD X G B (.Compare a [op] [b] pos) (oTst (oBin f oa ob)) :=
  pt_imp (pt_cmpR k.o ha hb hm) fun _ _ _ w => run_bin k.s (run_tst w)
theorem td_rd {o : O Rs} (h : RD X G B e o) (he : ∀ whole, isTrue e X.env whole = (do let v ← whole; standAt e.pos; holding [v] (truthy v)) := by intro _; rfl) : TD X G B e (oTst o) :=
  pt_imp (pt_val h he) fun _ _ _ w => run_tst w
theorem td_tru {o : O Va} (h : ED X G B e o) (he : ∀ whole, isTrue e X.env whole = (do let v ← whole; standAt e.pos; holding [v] (truthy v)) := by intro _; rfl) : TD X G B e (oTru o) :=
  pt_imp (pt_truth h he) fun σ H Q w => run_imp w fun x va ρ1 Z1 H1 S1 q p1 => by
    unfold tru1 at p1
    split at p1
    · rename_i d
      split at p1
      · rename_i k hk
        refine ⟨k, ?_, p1 k Z1 H1 (.refl _) S1 rfl⟩
        have q' : Rp X.K Z1 x d := q
        unfold fTru at hk
        split at hk
        · cases hk; cases q'; rfl
        · cases hk; cases q'; rfl
        · cases hk; cases q'; rfl
        · split at hk
          · cases hk; cases q'; exact ⟨lim_le ‹_›, by simp only [bne]; congr 1; rw [Bool.eq_iff_iff]; simp⟩
          · cases hk
        · cases hk
          cases q' with
          | lst h1 h2 =>
            refine .inl ⟨_, SqL.of (S1.zh _ _ h1), ?_⟩
            cases h2 <;> rfl
        · cases hk
          cases q' with
          | tup h1 h2 =>
            refine .inr (.inl ⟨_, SqT.of (S1.zh _ _ h1), ?_⟩)
            cases h2 <;> rfl
        · cases hk
      · exact p1.elim
    · rename_i i
      have q' : σ[i]? = some (some x) := q
      split at p1
      · rename_i p ds hr
        obtain ⟨b, o, q1, ho, r, _⟩ := S1.ow i _ _ hr
        rw [q1] at q'; cases q'
        cases o with
        | lst vs =>
          refine ⟨!ds.isEmpty, .inl ⟨vs, SqL.of ho, ?_⟩, p1 _ Z1 H1 (.refl _) S1 rfl⟩
          cases (show RpAll X.K Z1 vs ds from r) <;> rfl
        | _ => exact r.elim
      · rename_i p kvs hr
        obtain ⟨b, o, q1, ho, r, _⟩ := S1.ow i _ _ hr
        rw [q1] at q'; cases q'
        cases o with
        | dK vs =>
          refine ⟨!kvs.isEmpty, .inr (.inr ⟨vs, ho, ?_⟩), p1 _ Z1 H1 (.refl _) S1 rfl⟩
          cases (show KvR X.K Z1 vs kvs from r) <;> rfl
        | _ => exact r.elim
      · exact p1.elim
theorem wd_and1 (h : TD X G B a ta) : WD X G B (.BoolOp .And [a] pos) ta := pw_and1 h
theorem wd_or1 (h : TD X G B a ta) : WD X G B (.BoolOp .Or [a] pos) ta := pw_or1 h
theorem pw_imp {e : Expr} {t t' : TT} (h : PW X e t) (k : ∀ σ H Q, t' σ H Q → t σ H Q) : PW X e t' := ⟨fun wh pins s σ H Q I w => h.run wh pins s σ H Q I (k _ _ _ w)⟩
theorem wd_and (ha : TD X G B a ta) (hb : WD X G B (.BoolOp .And (b :: rest) pos) tb) : WD X G B (.BoolOp .And (a :: b :: rest) pos) (oAnd ta tb) :=
  pw_imp (pw_and ha hb) fun σ H Q w => run_imp w fun x k ρ1 Z1 H1 S1 q p1 => by
    have q : x = k := q
    subst q
    cases x with
    | true => exact ⟨Z1, ρ1, S1, p1⟩
    | false => exact p1 false Z1 H1 (.refl _) S1 rfl
theorem wd_or (ha : TD X G B a ta) (hb : WD X G B (.BoolOp .Or (b :: rest) pos) tb) : WD X G B (.BoolOp .Or (a :: b :: rest) pos) (oOr ta tb) :=
  pw_imp (pw_or ha hb) fun σ H Q w => run_imp w fun x k ρ1 Z1 H1 S1 q p1 => by
    have q : x = k := q
    subst q
    cases x with
    | true => exact p1 true Z1 H1 (.refl _) S1 rfl
    | false => exact ⟨Z1, ρ1, S1, p1⟩
theorem td_w (h : WD X G B e ta) : TD X G B e ta := PW.pt h
theorem td_not (ha : TD X G B a ta) : TD X G B (.UnaryOp .Not a pos) (oNot ta) :=
  pt_imp (pt_not ha) fun σ H Q w => run_imp w fun x k ρ1 Z1 H1 S1 q p1 => by
    have q : x = k := q
    subst q
    exact p1 _ Z1 H1 (.refl _) S1 rfl
/-! .. as values -/
theorem pd_one {op} {o : O D} (h : PD X G B a o) : PD X G B (.BoolOp op [a] pos) o := pe_one h
theorem pd_and {o o' : O D} (ha : PD X G B a o) (hb : PD X G B (.BoolOp .And (b :: rest) pos) o') : PD X G B (.BoolOp .And (a :: b :: rest) pos) (oAndV o o') :=
  pe_imp (pe_and ha hb) fun σ H Q w => run_imp w fun x k ρ1 Z1 H1 S1 q p1 => by
    unfold bl1 at p1
    split at p1
    · rename_i c
      have q' : Rp X.K Z1 x (.bool c) := q
      cases q'
      refine ⟨c, rfl, ?_⟩
      cases c with
      | true => exact ⟨Z1, ρ1, S1, p1⟩
      | false => exact p1 _ Z1 H1 (.refl _) S1 (.bl _)
    · exact p1.elim
theorem pd_or {o o' : O D} (ha : PD X G B a o) (hb : PD X G B (.BoolOp .Or (b :: rest) pos) o') : PD X G B (.BoolOp .Or (a :: b :: rest) pos) (oOrV o o') :=
  pe_imp (pe_or ha hb) fun σ H Q w => run_imp w fun x k ρ1 Z1 H1 S1 q p1 => by
    unfold bl1 at p1
    split at p1
    · rename_i c
      have q' : Rp X.K Z1 x (.bool c) := q
      cases q'
      refine ⟨c, rfl, ?_⟩
      cases c with
      | true => exact p1 _ Z1 H1 (.refl _) S1 (.bl _)
      | false => exact ⟨Z1, ρ1, S1, p1⟩
    · exact p1.elim
theorem pd_not {o : O D} (ha : PD X G B a o) : PD X G B (.UnaryOp .Not a pos) (oNotV o) :=
  pe_imp (pe_not ha) fun σ H Q w => run_imp w fun x k ρ1 Z1 H1 S1 q p1 => by
    unfold bl1 at p1
    split at p1
    · rename_i c
      have q' : Rp X.K Z1 x (.bool c) := q
      cases q'
      exact ⟨c, rfl, p1 _ Z1 H1 (.refl _) S1 (.bl _)⟩
    · exact p1.elim
theorem rd_if {o o' : O Rs} (hc : TD X G B c tc) (ha : RD X G B a o) (hb : RD X G B b o') : RD X G B (.IfExp c a b pos) (oIf tc o o') :=
  pe_imp (pe_ifExp hc ha hb) fun σ H Q w => run_imp w fun x k ρ1 Z1 H1 S1 q p1 => by
    have q : x = k := q
    subst q
    cases x with
    | true => exact ⟨Z1, ρ1, S1, p1⟩
    | false => exact ⟨Z1, ρ1, S1, p1⟩
theorem ed_if {o o' : O Va} (hc : TD X G B c tc) (ha : ED X G B a o) (hb : ED X G B b o') : ED X G B (.IfExp c a b pos) (oIf tc o o') :=
  pe_imp (pe_ifExp hc ha hb) fun σ H Q w => run_imp w fun x k ρ1 Z1 H1 S1 q p1 => by
    have q : x = k := q
    subst q
    cases x with
    | true => exact ⟨Z1, ρ1, S1, p1⟩
    | false => exact ⟨Z1, ρ1, S1, p1⟩
end
/-! ### two comparisons in a row -/
def oChain (f g : D → D → Option Rs) (oa ob oc : O Va) : O Rs := fun ρ => (oa ρ).bind fun a ρ1 => (ob ρ1).bind fun b ρ2 => (bin1 f a b ρ2).bind fun r ρ3 => (tst1 r ρ3).bind fun k ρ4 => if k = true then (oc ρ4).bind fun c ρ5 => bin1 g b c ρ5 else .ok (.pu (.bool false)) ρ4
section
variable {X : Cx} {G : Gm} {B : Wish} {a b c e : Expr} {rest : List Expr} {pos : Pos} {oa ob oc : O Va}
theorem bin1_run {K : PySem.W.Frag} {r : R2} {f : D → D → Option Rs} (hf : BinS K r f) {σ : St} {Z H : Hp} {ρ : Rho} {x y : V} {a b : Va} {Q : VK} (S : Sim K G Z ρ σ H) (rx : VaR K Z ρ σ H x a) (ry : VaR K Z ρ σ H y b)
    (p : Post K G B (RsR K G) σ Z (bin1 f a b ρ) Q) : r x y H Q := by
  unfold bin1 at p
  split at p
  · rename_i dx dy hx hy
    split at p
    · rename_i R hR
      exact hf x y dx dy R Z H Q S.zh (S.rdb rx hx) (S.rdb ry hy) hR fun v Z' H' g h => p.fin S g h
    · exact p.elim
  · exact p.elim
theorem run_chain {K : PySem.W.Frag} {r r' : R2} {f g : D → D → Option Rs} (hf : BinS K r f) (hg : BinS K r' g) {σ : St} {H : Hp} {Q : VK} (w : Run K G B (RsR K G) (oChain f g oa ob oc) σ H Q) :
    tChain r r' (Run K G B (VaR K) oa) (Run K G B (VaR K) ob) (Run K G B (VaR K) oc) σ H Q := by
  obtain ⟨Z, ρ, S, p⟩ := w
  refine ⟨Z, ρ, S, Post.bind p fun x a ρ1 Z1 H1 e1 S1 r1 p1 => ⟨Z1, ρ1, S1, Post.bind p1 fun y b ρ2 Z2 H2 e2 S2 r2 p2 => ?_⟩⟩
  refine bin1_run hf S2 (r1.mono (ρ' := ρ2) (H' := H2) e2) r2 (Post.bind p2 fun z r ρ3 Z3 H3 e3 S3 r3 p3 => ?_)
  unfold tst1 at p3
  split at p3
  · rename_i k
    have q : Rp K Z3 z (.bool k) := r3
    cases q
    refine ⟨k, rfl, ?_⟩
    cases k with
    | true =>
      refine ⟨Z3, ρ3, S3, Post.bind (R' := RsR K G) p3 fun w c ρ5 Z5 H5 e5 S5 r5 p5 => ?_⟩
      exact bin1_run hg S5 (r2.mono (ρ' := ρ5) (H' := H5) (e3.trans e5)) r5 p5
    | false => exact p3 _ Z3 H3 (.refl _) S3 (.bl _)
  · exact p3.elim
theorem rd_chain {op op' : CmpOp} {r r' : R2} {f g : D → D → Option Rs} (k : CmpK X op r f) (k' : CmpK X op' r' g) (ha : ED X G B a oa) (hb : ED X G B b ob) (hc : ED X G B c oc) (hl : lastMarks [op, op'] [b, c] = false := by with_unfolding_all rfl) :
    RD X G B (.Compare a [op, op'] [b, c] pos) (oChain f g oa ob oc) := pe_imp (pe_chain k.o k'.o ha hb hc hl) fun _ _ _ w => run_chain k.s k'.s w
theorem td_chain {op op' : CmpOp} {r r' : R2} {f g : D → D → Option Rs} (k : CmpK X op r f) (k' : CmpK X op' r' g) (ha : ED X G B a oa) (hb : ED X G B b ob) (hc : ED X G B c oc) (hl : lastMarks [op, op'] [b, c] = false := by with_unfolding_all rfl) :
    TD X G B (.Compare a [op, op'] [b, c] pos) (oTst (oChain f g oa ob oc)) := pt_imp (pt_chain k.o k'.o ha hb hc hl) fun _ _ _ w => run_chain k.s k'.s (run_tst w)
end
end Ow
namespace Ow
open PySem L2
/-! ### rows of expressions -/
def PusR (K : PySem.W.Frag) : Rel (List D) (List V) := fun Z ρ σ H vs ds => RpAll K Z vs ds
/-- a row of data to be kept (displays) -/
def QD (X : Cx) (G : Gm) (B : Wish) (es : List Expr) (o : O (List D)) : Prop := PA X es (Run X.K G B (PusR X.K) o)
def oNil {α : Type} : O (List α) := fun ρ => .ok [] ρ
def oCons {α : Type} (a : O α) (r : O (List α)) : O (List α) := fun ρ => (a ρ).bind fun x ρ1 => (r ρ1).bind fun xs ρ2 => .ok (x :: xs) ρ2
def oTup (o : O (List D)) : O D := fun ρ => (o ρ).bind fun ds ρ1 => if ds.length ≤ 16000000 then .ok (.tuple ds) ρ1 else .st
def oLst (o : O (List D)) : O Rs := fun ρ => (o ρ).bind fun ds ρ1 => if ds.length ≤ 16000000 then .ok (.nw (.li ds)) ρ1 else .st
section
variable {X : Cx} {G : Gm} {B : Wish} {e : Expr} {es : List Expr} {pos : Pos}
theorem VasR.mono {K : PySem.W.Frag} {Z Z' : Hp} {ρ ρ' : Rho} {σ : St} {H H' : Hp} {vs : List V} {as : List Va} (h : VasR K Z ρ σ H vs as) (e : Same Z Z') : VasR K Z' ρ' σ H' vs as :=
  Paired.mapP h fun _ _ r => VaR.mono r e
theorem qd_nil : QD X G B [] oNil := pa_imp pa_nil fun σ H Q ⟨Z, ρ, S, p⟩ => p [] Z H (.refl _) S .nil
theorem qd_cons {o : O D} {o' : O (List D)} (h : PD X G B e o) (h' : QD X G B es o') (hs : starEach (e :: es) X.env = (false, eval e X.env) :: starEach es X.env := by rfl) : QD X G B (e :: es) (oCons o o') :=
  pa_imp (pa_cons h h' hs) fun σ H Q w => run_imp w fun x d ρ1 Z1 H1 S1 r1 p1 => ⟨Z1, ρ1, S1, Post.bind p1 fun xs ds ρ2 Z2 H2 e2 S2 r2 p2 => p2 _ Z2 H2 (.refl _) S2 (.cons (Rp.mono r1 e2) r2)⟩
theorem ad_nil : AD X G B [] oNil := pa_imp pa_nil fun σ H Q ⟨Z, ρ, S, p⟩ => p [] Z H (.refl _) S .nil
theorem ad_cons {o : O Va} {o' : O (List Va)} (h : ED X G B e o) (h' : AD X G B es o') (hs : starEach (e :: es) X.env = (false, eval e X.env) :: starEach es X.env := by rfl) : AD X G B (e :: es) (oCons o o') :=
  pa_imp (pa_cons h h' hs) fun σ H Q w => run_imp w fun x d ρ1 Z1 H1 S1 r1 p1 => ⟨Z1, ρ1, S1, Post.bind p1 fun xs ds ρ2 Z2 H2 e2 S2 r2 p2 => p2 _ Z2 H2 (.refl _) S2 (.cons (VaR.mono r1 e2) r2)⟩
theorem pd_tup {o : O (List D)} {k} (h : QD X G B es o) : PD X G B (.Tuple es k pos) (oTup o) :=
  pe_imp (pe_tup h) fun σ H Q w => run_imp w fun vs ds ρ1 Z1 H1 S1 r1 p1 => by
    split at p1
    · rename_i hz
      refine ⟨by rw [RpAll.length r1]; exact lim_le hz, fun p hp => ?_⟩
      have g := Grow.still S1.zh hp (.tup vs)
      exact p1 _ _ _ g.z (S1.grow g) (.tup upd_same (RpAll.mono r1 g.z))
    · exact p1.elim
theorem rd_lst {o : O (List D)} (h : QD X G B es o) : RD X G B (.List es pos) (oLst o) :=
  pe_imp (pe_lst h) fun σ H Q w => run_imp w fun vs ds ρ1 Z1 H1 S1 r1 p1 => by
    split at p1
    · rename_i hz
      refine ⟨by rw [RpAll.length r1]; exact lim_le hz, fun p hp => ?_⟩
      exact p1.fin S1 (.loose S1.zh hp _) ⟨p, _, rfl, hp, S1.fresh hp, upd_same, r1⟩
    · exact p1.elim
end
/-! ### subscripts, slices -/
def fIx : D → D → Option Rs
  | .list xs, .int i => (atI xs i).map .pu
  | .tuple xs, .int i => (atI xs i).map .pu
  | .str x, .int i => if x.length ≤ 16000000 then (atI x.cps.toList i).map fun c => .pu (.str ⟨#[c]⟩) else none
  | .dict [(.none, .list xs)], .int i => (atI xs i).map .pu
  | .dict [(.bool true, .tuple xs)], .int i => (atI xs i).map .pu
  | _, _ => none
theorem atI_rp {K : PySem.W.Frag} {Z : Hp} {vs : List V} {ds : List D} {i : Int} {d : D} (r : RpAll K Z vs ds) (h : atI ds i = some d) : ∃ v, atI vs i = some v ∧ Rp K Z v d := by
  unfold atI at h ⊢
  rw [r.length]
  cases e : ixN ds.length i with
  | none => rw [e] at h; cases h
  | some j =>
    rw [e] at h
    exact r.get h
theorem binS_ix {K : PySem.W.Frag} : BinS K (rIx K) fIx := by
  intro x y dx dy R Z H Q e rx ry hf k
  unfold fIx at hf
  split at hf
  · rename_i xs i
    cases h : atI xs i with
    | none => rw [h] at hf; cases hf
    | some d =>
      rw [h] at hf; cases hf
      obtain ⟨a, vs, rfl, ha, ra⟩ := rx.list e
      obtain ⟨v, hv, rv⟩ := atI_rp ra h
      exact .inl ⟨a, vs, i, v, rfl, ry.int, SqL.of ha, hv, k v Z H (.refl e) rv⟩
  · rename_i xs i
    cases h : atI xs i with
    | none => rw [h] at hf; cases hf
    | some d =>
      rw [h] at hf; cases hf
      obtain ⟨a, vs, rfl, ha, ra, _⟩ := rx.tup e
      obtain ⟨v, hv, rv⟩ := atI_rp ra h
      exact .inr (.inl ⟨a, vs, i, v, rfl, ry.int, SqT.of ha, hv, k v Z H (.refl e) rv⟩)
  · rename_i x i
    split at hf
    · cases h : atI x.cps.toList i with
      | none => rw [h] at hf; cases hf
      | some d =>
        rw [h] at hf; cases hf
        exact .inr (.inr ⟨x, i, d, rx.str, ry.int, lim_le ‹_›, h, k _ Z H (.refl e) (.str _)⟩)
    · cases hf
  · rename_i xs i
    cases h : atI xs i with
    | none => rw [h] at hf; cases hf
    | some d =>
      rw [h] at hf; cases hf
      obtain ⟨a, vs, rfl, ha, ra⟩ := rx.scr e
      obtain ⟨v, hv, rv⟩ := atI_rp ra h
      exact .inl ⟨a, vs, i, v, rfl, ry.int, ha, hv, k v Z H (.refl e) rv⟩
  · rename_i xs i
    cases h : atI xs i with
    | none => rw [h] at hf; cases hf
    | some d =>
      rw [h] at hf; cases hf
      obtain ⟨a, vs, rfl, ha, ra⟩ := rx.kon e
      obtain ⟨v, hv, rv⟩ := atI_rp ra h
      exact .inr (.inl ⟨a, vs, i, v, rfl, ry.int, ha, hv, k v Z H (.refl e) rv⟩)
  · cases hf
section
variable {X : Cx} {G : Gm} {B : Wish} {a b e : Expr} {es : List Expr} {pos p2 : Pos} {oa ob : O Va}
theorem rd_ix (ha : ED X G B a oa) (hb : ED X G B b ob) (hs : PlainIx b := by exact fun _ _ => rfl) : RD X G B (.Subscript a b pos) (oBin fIx oa ob) :=
  pe_imp (pe_ix ix_seq ha hb hs) fun _ _ _ w => run_bin binS_ix w
end
def cutD {α : Type} (xs : List α) (lo hi : Option Int) : List α := (xs.drop (HT.sIx xs.length 0 lo)).take (HT.sIx xs.length xs.length hi - HT.sIx xs.length 0 lo)
def fSl : D → Option Int → Option Int → Option Rs
  | .list xs, lo, hi => some (.nw (.li (cutD xs lo hi)))
  | .tuple xs, lo, hi => some (.pu (.tuple (cutD xs lo hi)))
  | .str x, lo, hi => if x.length ≤ 16000000 then some (.pu (.str (cutS x lo hi))) else none
  | _, _, _ => none
def OpR' : Rel (Option Int) (Option Int) := fun _ _ _ _ a b => a = b
def OD (X : Cx) (G : Gm) (B : Wish) (e : Option Expr) (o : O (Option Int)) : Prop := PO X e (Run X.K G B OpR' o)
def part1 (d : D) (ρ : Rho) : M (Option Int) := match d with
  | .int i => .ok (some i) ρ
  | _ => .st
@[simp] theorem part1_i (i : Int) (ρ : Rho) : part1 (.int i) ρ = .ok (some i) ρ := rfl
def oPart (o : O D) : O (Option Int) := fun ρ => (o ρ).bind part1
def oNoPart : O (Option Int) := fun ρ => .ok none ρ
def sl1 (a : Va) (lo hi : Option Int) (ρ : Rho) : M Rs := match rdV ρ a with
  | some d => match fSl d lo hi with
    | some r => .ok r ρ
    | none => .st
  | none => .st
def oSl (oa : O Va) (ol oh : O (Option Int)) : O Rs := fun ρ => (oa ρ).bind fun a ρ1 => (ol ρ1).bind fun lo ρ2 => (oh ρ2).bind fun hi ρ3 => sl1 a lo hi ρ3
section
variable {X : Cx} {G : Gm} {B : Wish} {a b e : Expr} {lo hi : Option Expr} {es : List Expr} {pos p2 : Pos} {oa ob : O Va}
theorem po_imp {e : Option Expr} {t t' : TO} (h : PO X e t) (k : ∀ σ H Q, t' σ H Q → t σ H Q) : PO X e t' := ⟨fun pins s σ H Q I w => h.run pins s σ H Q I (k _ _ _ w)⟩
theorem od_some {o : O D} (h : PD X G B e o) : OD X G B (some e) (oPart o) := po_imp (po_some h) fun σ H Q w => run_imp w fun x d ρ1 Z1 H1 S1 r1 p1 => by
  unfold part1 at p1
  split at p1
  · rename_i i
    have q : Rp X.K Z1 x (.int i) := r1
    cases q
    exact ⟨i, rfl, p1 _ Z1 H1 (.refl _) S1 rfl⟩
  · exact p1.elim
theorem od_none : OD X G B none oNoPart := po_imp po_none fun σ H Q ⟨Z, ρ, S, p⟩ => p none Z H (.refl _) S rfl
theorem SlR.or {r r' : V → Option Int → Option Int → Hp → VK → Prop} (h : SlR X r) (h' : SlR X r') : SlR X (fun x lo hi H Q => r x lo hi H Q ∨ r' x lo hi H Q) :=
  fun pins s σ H x v vl vu lo hi sl Q I rx hs pl pu w => w.elim (h pins s σ H x v vl vu lo hi sl Q I rx hs pl pu) (h' pins s σ H x v vl vu lo hi sl Q I rx hs pl pu)
theorem rd_sl {ol oh : O (Option Int)} (ha : ED X G B a oa) (hl : OD X G B lo ol) (hh : OD X G B hi oh) : RD X G B (.Subscript a (.Slice lo hi none p2) pos) (oSl oa ol oh) :=
  pe_imp (pe_slice (SlR.or sl_list (SlR.or sl_tupA sl_str)) ha hl hh) fun σ H Q w => run_imp w fun x va ρ1 Z1 H1 S1 r1 p1 =>
    ⟨Z1, ρ1, S1, Post.bind p1 fun l l' ρ2 Z2 H2 e2 S2 r2 p2 => ⟨Z2, ρ2, S2, Post.bind p2 fun u u' ρ3 Z3 H3 e3 S3 r3 p3 => by
      have r2 : l = l' := r2
      have r3 : u = u' := r3
      subst r2 r3
      unfold sl1 at p3
      split at p3
      · rename_i d hd
        have rd := S3.rdb (r1.mono (ρ' := ρ3) (H' := H3) (e2.trans e3)) hd
        have e := S3.zh
        unfold fSl at p3
        split at p3
        · rename_i R hR
          split at hR
          · cases hR
            rename_i xs
            obtain ⟨b, vs, rfl, hb, rb⟩ := rd.list e
            refine .inl ⟨b, vs, rfl, SqL.of hb, fun p hp => ?_⟩
            refine p3.fin S3 (.loose e hp _) ⟨p, _, rfl, hp, S3.fresh hp, upd_same, ?_⟩
            show RpAll X.K Z3 (cutV vs l u) (cutD xs l u)
            unfold cutV cutD
            rw [rb.length]
            exact (rb.drop _).take _
          · cases hR
            rename_i xs
            obtain ⟨b, vs, rfl, hb, rb, qb⟩ := rd.tup e
            have hl := rb.length
            refine .inr (.inl ⟨b, vs, rfl, SqT.of hb, fun hw => ?_, fun hw p hp => ?_⟩)
            · refine p3.fin S3 (.refl e) ?_
              have q : cutD xs l u = xs := by
                unfold cutD
                rw [hl] at hw
                rw [hw.1, hw.2, List.drop_zero, Nat.sub_zero, List.take_length]
              show Rp X.K Z3 _ (.tuple (cutD xs l u))
              rw [q]
              exact qb
            · have g := Grow.still e hp (.tup (cutV vs l u))
              refine p3.fin S3 g (.tup upd_same (RpAll.mono ?_ g.z))
              unfold cutV cutD
              rw [rb.length]
              exact (rb.drop _).take _
          · split at hR
            · cases hR
              exact .inr (.inr ⟨_, rd.str, lim_le ‹_›, p3.fin S3 (.refl e) (.str _)⟩)
            · cases hR
          · cases hR
        · exact p3.elim
      · exact p3.elim⟩⟩
end
/-! ### built-ins by their arguments -/
def rdVs (ρ : Rho) : List Va → Option (List D)
  | [] => some []
  | a :: as => match rdV ρ a, rdVs ρ as with
    | some d, some ds => some (d :: ds)
    | _, _ => none
@[simp] theorem rdVs_nil (ρ : Rho) : rdVs ρ [] = some [] := rfl
@[simp] theorem rdVs_cons (ρ : Rho) (a : Va) (as : List Va) : rdVs ρ (a :: as) = match rdV ρ a, rdVs ρ as with | some d, some ds => some (d :: ds) | _, _ => none := rfl
theorem Sim.rdbs {K : PySem.W.Frag} {G : Gm} {Z : Hp} {ρ ρ' : Rho} {σ : St} {H H' : Hp} (S : Sim K G Z ρ σ H) : ∀ {as : List Va} {vs : List V} {ds : List D}, VasR K Z ρ' σ H' vs as → rdVs ρ as = some ds → Paired (Rdb K Z H) vs ds
  | [], _, _, h, e => by cases h; cases e; exact .nil
  | a :: as, _, _, h, e => by
    cases h with
    | cons h1 h2 =>
      unfold rdVs at e
      split at e
      · cases e
        exact .cons (S.rdb h1 ‹_›) (Sim.rdbs S h2 ‹_›)
      · cases e
def CallS (K : PySem.W.Frag) (r : List V → Hp → VK → Prop) (f : List D → Option Rs) : Prop := ∀ (vs : List V) (ds : List D) (R : Rs) (Z H : Hp) (Q : VK), Same Z H → Paired (Rdb K Z H) vs ds → f ds = some R →
  (∀ v Z' H', Grow Z H Z' H' → ResG K Z' H H' v R → Q v H') → r vs H Q
def cb1 (f : List D → Option Rs) (as : List Va) (ρ : Rho) : M Rs := match rdVs ρ as with
  | some ds => match f ds with
    | some r => .ok r ρ
    | none => .st
  | none => .st
def oCB (f : List D → Option Rs) (oas : O (List Va)) : O Rs := fun ρ => (oas ρ).bind (cb1 f)
section
variable {X : Cx} {G : Gm} {B : Wish} {x : Str} {p pos : Pos} {e o : Expr} {es : List Expr} {id T : String} {r : List V → Hp → VK → Prop} {f : List D → Option Rs} {oas : O (List Va)}
theorem run_cb {K : PySem.W.Frag} (hf : CallS K r f) {σ : St} {H : Hp} {Q : VK} (w : Run K G B (RsR K G) (oCB f oas) σ H Q) : tCB r (Run K G B (VasR K) oas) σ H Q :=
  run_imp (C := fun vs H1 => r vs H1 Q) w fun vs as ρ1 Z1 H1 S1 r1 p1 => by
    unfold cb1 at p1
    split at p1
    · rename_i ds hd
      split at p1
      · rename_i R hR
        exact hf vs ds R Z1 H1 Q S1.zh (S1.rdbs r1 hd) hR fun v Z' H' g h => p1.fin S1 g h
      · exact p1.elim
    · exact p1.elim
theorem rd_callB (hc : CallR X (.builtin id) r) (hf : CallS X.K r f) (hg : Gl X x) (hm : X.mg x = none) (hv : bootBuiltins x = some (.builtin id)) (ha : AD X G B (e :: es) oas) (hn : x ≠ "__name__" := by decide) (hdb : (x == ("__debug__" : Str)) = false := by decide)
    (he : starEach (e :: es) X.env = (false, eval e X.env) :: starEach es X.env := by rfl) (hpl : (backTo pos (starEach es X.env)).any (·.1) = false := by rfl) : RD X G B (.Call (.Name x p) (e :: es) [] pos) (oCB f oas) :=
  pe_imp (pe_callB hc hg hm hv ha hn hdb he hpl) fun _ _ _ w => run_cb hf w
theorem rd_callTy (hc : CallR X (.type T) r) (hf : CallS X.K r f) (hg : Gl X x) (hm : X.mg x = none) (hv : bootBuiltins x = some (.type T)) (ha : AD X G B (e :: es) oas) (hn : x ≠ "__name__" := by decide) (hdb : (x == ("__debug__" : Str)) = false := by decide)
    (he : starEach (e :: es) X.env = (false, eval e X.env) :: starEach es X.env := by rfl) (hpl : (backTo pos (starEach es X.env)).any (·.1) = false := by rfl) : RD X G B (.Call (.Name x p) (e :: es) [] pos) (oCB f oas) :=
  pe_imp (pe_callTy hc hg hm hv ha hn hdb he hpl) fun _ _ _ w => run_cb hf w
end
/-! ### methods of built-in things, that change nothing -/
def MetS (K : PySem.W.Frag) (r : V → List V → Hp → VK → Prop) (f : D → List D → Option Rs) : Prop := ∀ (x : V) (d : D) (vs : List V) (ds : List D) (R : Rs) (Z H : Hp) (Q : VK), Same Z H → Rdb K Z H x d → Paired (Rdb K Z H) vs ds → f d ds = some R →
  (∀ v Z' H', Grow Z H Z' H' → ResG K Z' H H' v R → Q v H') → r x vs H Q
def met1 (f : D → List D → Option Rs) (a : Va) (as : List Va) (ρ : Rho) : M Rs := match rdV ρ a, rdVs ρ as with
  | some d, some ds => match f d ds with
    | some r => .ok r ρ
    | none => .st
  | _, _ => .st
def isTy (T : String) (d : D) : Bool := match d with
  | .str _ => T == "str"
  | .list _ => T == "list"
  | .int _ => T == "int"
  | _ => false
def ty1 (T : String) (a : Va) (ρ : Rho) (m : M Rs) : M Rs := match rdV ρ a with
  | some d => if isTy T d = true then m else .st
  | none => .st
def oBM (T : String) (f : D → List D → Option Rs) (oo : O Va) (oas : O (List Va)) : O Rs := fun ρ => (oo ρ).bind fun a ρ1 => ty1 T a ρ1 ((oas ρ1).bind fun as ρ2 => met1 f a as ρ2)
def oBM0 (T : String) (f : D → List D → Option Rs) (oo : O Va) : O Rs := fun ρ => (oo ρ).bind fun a ρ1 => ty1 T a ρ1 (met1 f a [] ρ1)
theorem isTy_v {K : PySem.W.Frag} {Z H : Hp} {x : V} {d : D} {T : String} (h : isTy T d = true) (r : Rdb K Z H x d) (e : Same Z H) : tyV K T x H := by
  unfold isTy at h
  split at h
  · rw [r.str]; exact eq_of_beq h
  · obtain ⟨a, vs, rfl, ha, _⟩ := r.list e; exact .inl ⟨eq_of_beq h, vs, SqL.of ha⟩
  · rw [r.int]; exact eq_of_beq h
  · cases h
section
variable {X : Cx} {G : Gm} {B : Wish} {name : Str} {apos cpos : Pos} {e o : Expr} {es : List Expr} {id T : String} {r : V → List V → Hp → VK → Prop} {f : D → List D → Option Rs} {oo : O Va} {oas : O (List Va)}
theorem rd_bm (pa : PlainAttrs T) (slot : Slot T name id) (hty : typeOf (.builtin id) = pure (.type "method_descriptor")) (hm : MtR X id r) (hf : MetS X.K r f) (ho : ED X G B o oo) (ha : AD X G B (e :: es) oas)
    (hbase : attributeBase o name X.env (eval o X.env) = eval o X.env := by rfl)
    (hfew : ((backTo cpos (starEach (e :: es) X.env)).all (fun x => !x.1) && (backToKw cpos (keywordEach [] X.env)).all (fun x => x.1.isSome)
      && decide ((e :: es).length + ([] : List Keyword).length + (if ([] : List Keyword).isEmpty then 0 else 1) < 30)) = true := by rfl)
    (hline : (apos.endLine == cpos.line) = true := by rfl) (hs : starEach (e :: es) X.env = (false, eval e X.env) :: starEach es X.env := by rfl) (hplain : (backTo cpos (starEach es X.env)).any (·.1) = false := by rfl) :
    RD X G B (.Call (.Attribute o name apos) (e :: es) [] cpos) (oBM T f oo oas) :=
  pe_imp (pe_bm pa slot hty hm ho ha hbase hfew hline hs hplain) fun σ H Q w => run_imp w fun x va ρ1 Z1 H1 S1 r1 p1 => by
    unfold ty1 at p1
    split at p1
    · rename_i d hd
      split at p1
      · rename_i ht
        refine ⟨isTy_v ht (S1.rdb r1 hd) S1.zh, Z1, ρ1, S1, Post.bind p1 fun vs as ρ2 Z2 H2 e2 S2 r2 p2 => ?_⟩
        unfold met1 at p2
        split at p2
        · rename_i d' ds hd' hds
          split at p2
          · rename_i R hR
            exact hf x d' vs ds R Z2 H2 Q S2.zh (S2.rdb (r1.mono (ρ' := ρ2) (H' := H2) e2) hd') (S2.rdbs r2 hds) hR fun v Z' H' g h => p2.fin S2 g h
          · exact p2.elim
        · exact p2.elim
      · exact p1.elim
    · exact p1.elim
theorem rd_bm0 (pa : PlainAttrs T) (slot : Slot T name id) (hty : typeOf (.builtin id) = pure (.type "method_descriptor")) (hm : MtR X id r) (hf : MetS X.K r f) (ho : ED X G B o oo)
    (hbase : attributeBase o name X.env (eval o X.env) = eval o X.env := by rfl) (hline : (apos.endLine == cpos.line) = true := by rfl) : RD X G B (.Call (.Attribute o name apos) [] [] cpos) (oBM0 T f oo) :=
  pe_imp (pe_bm0 pa slot hty hm ho hbase hline) fun σ H Q w => run_imp w fun x va ρ1 Z1 H1 S1 r1 p1 => by
    unfold ty1 at p1
    split at p1
    · rename_i d hd
      split at p1
      · rename_i ht
        refine ⟨isTy_v ht (S1.rdb r1 hd) S1.zh, ?_⟩
        unfold met1 at p1
        split at p1
        · rename_i d' ds hd' hds
          split at p1
          · rename_i R hR
            cases hds
            exact hf x d' [] [] R Z1 H1 Q S1.zh (S1.rdb r1 hd') .nil hR fun v Z' H' g h => p1.fin S1 g h
          · exact p1.elim
        · exact p1.elim
      · exact p1.elim
    · exact p1.elim
end
end Ow
namespace Ow
open PySem L2
theorem Paired.one {α β : Type} {G : α → β → Prop} {vs : List α} {d : β} (h : Paired G vs [d]) : ∃ v, vs = [v] ∧ G v d := by
  cases h with
  | cons h1 h2 => cases h2; exact ⟨_, rfl, h1⟩
theorem Paired.two {α β : Type} {G : α → β → Prop} {vs : List α} {d e : β} (h : Paired G vs [d, e]) : ∃ v w, vs = [v, w] ∧ G v d ∧ G w e := by
  cases h with
  | cons h1 h2 => obtain ⟨w, rfl, h3⟩ := Paired.one h2; exact ⟨_, _, rfl, h1, h3⟩
def intsOf : List D → Option (List Int)
  | [] => some []
  | .int i :: r => (intsOf r).map (i :: ·)
  | _ :: _ => none
def strsOf : List D → Option (List Str)
  | [] => some []
  | .str i :: r => (strsOf r).map (i :: ·)
  | _ :: _ => none
def boolsOf : List D → Option (List Bool)
  | [] => some []
  | .bool i :: r => (boolsOf r).map (i :: ·)
  | _ :: _ => none
theorem intsOf_eq : ∀ {ds : List D} {ns : List Int}, intsOf ds = some ns → ds = ns.map PyData.int
  | [], _, h => by cases h; rfl
  | d :: r, ns, h => by
    unfold intsOf at h
    split at h
    · rename_i e; cases e
    · rename_i i r' e
      cases e
      cases q : intsOf r with
      | none => rw [q] at h; cases h
      | some ms => rw [q] at h; cases h; rw [intsOf_eq q]; rfl
    · cases h
theorem strsOf_eq : ∀ {ds : List D} {ns : List Str}, strsOf ds = some ns → ds = ns.map PyData.str
  | [], _, h => by cases h; rfl
  | d :: r, ns, h => by
    unfold strsOf at h
    split at h
    · rename_i e; cases e
    · rename_i i r' e
      cases e
      cases q : strsOf r with
      | none => rw [q] at h; cases h
      | some ms => rw [q] at h; cases h; rw [strsOf_eq q]; rfl
    · cases h
theorem boolsOf_eq : ∀ {ds : List D} {ns : List Bool}, boolsOf ds = some ns → ds = ns.map PyData.bool
  | [], _, h => by cases h; rfl
  | d :: r, ns, h => by
    unfold boolsOf at h
    split at h
    · rename_i e; cases e
    · rename_i i r' e
      cases e
      cases q : boolsOf r with
      | none => rw [q] at h; cases h
      | some ms => rw [q] at h; cases h; rw [boolsOf_eq q]; rfl
    · cases h
@[simp] theorem intsOf_map (ns : List Int) : intsOf (ns.map PyData.int) = some ns := by
  induction ns with
  | nil => rfl
  | cons n r ih => simp [intsOf, ih]
@[simp] theorem strsOf_map (ns : List Str) : strsOf (ns.map PyData.str) = some ns := by
  induction ns with
  | nil => rfl
  | cons n r ih => simp [strsOf, ih]
@[simp] theorem boolsOf_map (ns : List Bool) : boolsOf (ns.map PyData.bool) = some ns := by
  induction ns with
  | nil => rfl
  | cons n r ih => simp [boolsOf, ih]
/-! ### len -/
def fLen : D → Option Nat
  | .str x => if x.length ≤ 16000000 then some x.length else none
  | .list xs => some xs.length
  | .tuple xs => some xs.length
  | .dict [(.none, .list xs)] => some xs.length
  | .dict [(.bool true, .tuple xs)] => some xs.length
  | _ => none
def len1 (a : Va) (ρ : Rho) : M Rs := match rdV ρ a with
  | some d => match fLen d with
    | some n => .ok (.pu (.int n)) ρ
    | none => .st
  | none => match a with
    | .rf i => match ρ[i]? with
      | some (.ow _ (.dk kvs)) => .ok (.pu (.int kvs.length)) ρ
      | _ => .st
    | _ => .st
def oLen (o : O Va) : O Rs := fun ρ => (o ρ).bind len1
@[simp] theorem len1_pu (d : D) (ρ : Rho) : len1 (.pu d) ρ = match fLen d with | some n => .ok (.pu (.int n)) ρ | none => .st := by
  unfold len1
  rw [rdV_pu]
theorem CallR.or {X : Cx} {f : Value} {r r' : List V → Hp → VK → Prop} (h : CallR X f r) (h' : CallR X f r') : CallR X f (fun x H Q => r x H Q ∨ r' x H Q) :=
  fun pins s σ H xs us Q I q w => w.elim (h pins s σ H xs us Q I q) (h' pins s σ H xs us Q I q)
section
variable {X : Cx} {G : Gm} {B : Wish} {p pos : Pos} {e e2 : Expr} {es : List Expr} {oa ob : O Va}
theorem rd_len (hg : Gl X "len") (hm : X.mg "len" = none) (ha : ED X G B e oa) (hs : starEach [e] X.env = (false, eval e X.env) :: starEach [] X.env := by rfl) : RD X G B (.Call (.Name "len" p) [e] [] pos) (oLen oa) :=
  pe_imp (pe_callB (CallR.or call_len call_lenD) hg hm PySem.boot_len (pa_cons ha pa_nil hs) (he := hs) (hpl := rfl)) fun σ H Q w => run_imp w fun x va ρ1 Z1 H1 S1 r1 p1 => by
    unfold len1 at p1
    split at p1
    · rename_i d hd
      have rd := S1.rdb r1 hd
      split at p1
      · rename_i n hn
        refine .inl ⟨x, n, rfl, ?_, p1.fin S1 (.refl S1.zh) (.int _)⟩
        unfold fLen at hn
        split at hn
        · split at hn
          · cases hn; rw [rd.str]; exact ⟨lim_le ‹_›, rfl⟩
          · cases hn
        · cases hn
          obtain ⟨b, vs, rfl, hb, rb⟩ := rd.list S1.zh
          exact .inl ⟨vs, SqL.of hb, rb.length.symm⟩
        · cases hn
          obtain ⟨b, vs, rfl, hb, rb, _⟩ := rd.tup S1.zh
          exact .inr ⟨vs, SqT.of hb, rb.length.symm⟩
        · cases hn
          obtain ⟨b, vs, rfl, hb, rb⟩ := rd.scr S1.zh
          exact .inl ⟨vs, hb, rb.length.symm⟩
        · cases hn
          obtain ⟨b, vs, rfl, hb, rb⟩ := rd.kon S1.zh
          exact .inr ⟨vs, hb, rb.length.symm⟩
        · cases hn
      · exact p1.elim
    · split at p1
      · rename_i i _
        split at p1
        · rename_i pn kvs hr
          obtain ⟨b, o, q1, ho, r, _⟩ := S1.ow i _ _ hr
          have q' : σ[i]? = some (some x) := r1
          rw [q1] at q'; cases q'
          cases o with
          | dK vs =>
            refine .inr ⟨b, vs, rfl, ho, ?_⟩
            have hl : vs.length = kvs.length := Paired.length (show KvR X.K Z1 vs kvs from r)
            rw [hl]
            exact p1.fin S1 (.refl S1.zh) (.int _)
          | _ => exact r.elim
        · exact p1.elim
      · exact p1.elim
end
/-! ### list(..), tuple(..) -/
def fList : List D → Option Rs
  | [.list xs] => some (.nw (.li xs))
  | [.tuple xs] => some (.nw (.li xs))
  | [.dict [(.none, .list xs)]] => some (.nw (.li xs))
  | _ => none
def fTuple : List D → Option Rs
  | [.list xs] => some (.pu (.tuple xs))
  | [.tuple xs] => some (.pu (.tuple xs))
  | _ => none
def fInt1 : List D → Option Rs
  | [.int i] => some (.pu (.int i))
  | [.bool b] => some (.pu (.int (if b then 1 else 0)))
  | _ => none
def fAbs : List D → Option Rs
  | [.int i] => some (.pu (.int (if i < 0 then -i else i)))
  | _ => none
def fMax2 : List D → Option Rs
  | [.int i, .int j] => some (.pu (.int (if j > i then j else i)))
  | _ => none
def fMin2 : List D → Option Rs
  | [.int i, .int j] => some (.pu (.int (if j < i then j else i)))
  | _ => none
def fStr1 : List D → Option Rs
  | [.int i] => if i.natAbs.log2 < 1920 then some (.pu (.str (toString i : String))) else none
  | _ => none
def maxI : List Int → Int
  | [] => 0
  | [x] => x
  | x :: r => if maxI r > x then maxI r else x
def minI : List Int → Int
  | [] => 0
  | [x] => x
  | x :: r => if minI r < x then minI r else x
def fSum : List D → Option Rs
  | [.list xs] => (intsOf xs).map fun ns => .pu (.int ns.sum)
  | _ => none
def fAll : List D → Option Rs
  | [.list xs] => (boolsOf xs).map fun ns => .pu (.bool (ns.all id))
  | _ => none
def fAny : List D → Option Rs
  | [.list xs] => (boolsOf xs).map fun ns => .pu (.bool (ns.any id))
  | _ => none
def fMax1 : List D → Option Rs
  | [.list xs] => match intsOf xs with
    | some (n :: ns) => some (.pu (.int (maxI (n :: ns))))
    | _ => none
  | _ => none
def fMin1 : List D → Option Rs
  | [.list xs] => match intsOf xs with
    | some (n :: ns) => some (.pu (.int (minI (n :: ns))))
    | _ => none
  | _ => none
def sortI (ns : List Int) : List Int := ns.mergeSort (fun a b => decide (a ≤ b))
def fSorted : List D → Option Rs
  | [.list xs] => (intsOf xs).map fun ns => .nw (.li ((sortI ns).map PyData.int))
  | _ => none
theorem maxI_ge : ∀ {ns : List Int}, ∀ y ∈ ns, y ≤ maxI ns
  | [x], y, h => by simp at h; simp [maxI, h]
  | x :: z :: r, y, h => by
    have ih := maxI_ge (ns := z :: r)
    unfold maxI
    rcases List.mem_cons.mp h with h | h
    · subst h; split <;> omega
    · have := ih y h; split <;> omega
theorem maxI_mem : ∀ {ns : List Int}, ns ≠ [] → maxI ns ∈ ns
  | [x], _ => by simp [maxI]
  | x :: z :: r, _ => by
    have ih := maxI_mem (ns := z :: r) (by simp)
    unfold maxI
    split
    · exact List.mem_cons_of_mem _ ih
    · exact List.mem_cons_self
theorem minI_le : ∀ {ns : List Int}, ∀ y ∈ ns, minI ns ≤ y
  | [x], y, h => by simp at h; simp [minI, h]
  | x :: z :: r, y, h => by
    have ih := minI_le (ns := z :: r)
    unfold minI
    rcases List.mem_cons.mp h with h | h
    · subst h; split <;> omega
    · have := ih y h; split <;> omega
theorem minI_mem : ∀ {ns : List Int}, ns ≠ [] → minI ns ∈ ns
  | [x], _ => by simp [minI]
  | x :: z :: r, _ => by
    have ih := minI_mem (ns := z :: r) (by simp)
    unfold minI
    split
    · exact List.mem_cons_of_mem _ ih
    · exact List.mem_cons_self
theorem sorted_unique : ∀ {l m : List Int}, l.Perm m → l.Pairwise (· ≤ ·) → m.Pairwise (· ≤ ·) → l = m
  | [], m, p, _, _ => by rw [List.nil_perm.mp p]
  | x :: l, [], p, _, _ => by have := p.length_eq; simp at this
  | x :: l, y :: m, p, h1, h2 => by
    have hx : x ∈ y :: m := p.mem_iff.mp List.mem_cons_self
    have hy : y ∈ x :: l := p.mem_iff.mpr List.mem_cons_self
    have e : x = y := by
      rcases List.mem_cons.mp hx with e | hx'
      · exact e
      · rcases List.mem_cons.mp hy with e | hy'
        · exact e.symm
        · have a := (List.pairwise_cons.mp h1).1 y hy'
          have b := (List.pairwise_cons.mp h2).1 x hx'
          omega
    subst e
    rw [sorted_unique (List.Perm.cons_inv p) (List.pairwise_cons.mp h1).2 (List.pairwise_cons.mp h2).2]
theorem sortI_perm (ns : List Int) : (sortI ns).Perm ns := List.mergeSort_perm ns _
theorem sortI_sorted (ns : List Int) : (sortI ns).Pairwise (· ≤ ·) := by
  have h := List.pairwise_mergeSort (le := fun (a b : Int) => decide (a ≤ b)) (fun a b c h1 h2 => by simp at *; omega) (fun a b => by simp; omega) ns
  exact h.imp fun h => of_decide_eq_true h
section
variable {K : PySem.W.Frag}
theorem callS_list : CallS K (fun xs H Q => ∃ p ys, xs = [.ref p] ∧ (SqL K H p ys ∨ SqT K H p ys) ∧ ∀ l, H l = none → Q (.ref l) (upd H l (.lst ys))) fList := by
  intro vs ds R Z H Q e r hf k
  unfold fList at hf
  split at hf
  · cases hf
    obtain ⟨v, rfl, r1⟩ := Paired.one r
    obtain ⟨b, ws, rfl, hb, rb⟩ := r1.list e
    exact ⟨b, ws, rfl, .inl (SqL.of hb), fun l hl => k _ Z _ (.loose e hl _) ⟨l, _, rfl, hl, none_of_same e hl, upd_same, rb⟩⟩
  · cases hf
    obtain ⟨v, rfl, r1⟩ := Paired.one r
    obtain ⟨b, ws, rfl, hb, rb, _⟩ := r1.tup e
    exact ⟨b, ws, rfl, .inr (SqT.of hb), fun l hl => k _ Z _ (.loose e hl _) ⟨l, _, rfl, hl, none_of_same e hl, upd_same, rb⟩⟩
  · cases hf
    obtain ⟨v, rfl, r1⟩ := Paired.one r
    obtain ⟨b, ws, rfl, hb, rb⟩ := r1.scr e
    exact ⟨b, ws, rfl, .inl hb, fun l hl => k _ Z _ (.loose e hl _) ⟨l, _, rfl, hl, none_of_same e hl, upd_same, rb⟩⟩
  · cases hf
theorem callS_tuple : CallS K (fun xs H Q => ∃ p ys, xs = [.ref p] ∧ ((SqL K H p ys ∧ ∀ l, H l = none → Q (.ref l) (upd H l (.tup ys))) ∨ (SqT K H p ys ∧ Q (.ref p) H))) fTuple := by
  intro vs ds R Z H Q e r hf k
  unfold fTuple at hf
  split at hf
  · cases hf
    obtain ⟨v, rfl, r1⟩ := Paired.one r
    obtain ⟨b, ws, rfl, hb, rb⟩ := r1.list e
    refine ⟨b, ws, rfl, .inl ⟨SqL.of hb, fun l hl => ?_⟩⟩
    have g := Grow.still e hl (.tup ws)
    exact k _ _ _ g (.tup upd_same (RpAll.mono rb g.z))
  · cases hf
    obtain ⟨v, rfl, r1⟩ := Paired.one r
    obtain ⟨b, ws, rfl, hb, rb, q⟩ := r1.tup e
    exact ⟨b, ws, rfl, .inr ⟨SqT.of hb, k _ Z H (.refl e) q⟩⟩
  · cases hf
theorem callS_int : CallS K (fun xs H Q => (∃ i, xs = [.int i] ∧ Q (.int i) H) ∨ ∃ k, xs = [.bl k] ∧ Q (.int (if k then 1 else 0)) H) fInt1 := by
  intro vs ds R Z H Q e r hf k
  unfold fInt1 at hf
  split at hf
  · cases hf
    obtain ⟨v, rfl, r1⟩ := Paired.one r
    rw [r1.int]
    exact .inl ⟨_, rfl, k _ Z H (.refl e) (.int _)⟩
  · cases hf
    obtain ⟨v, rfl, r1⟩ := Paired.one r
    rw [r1.bl]
    exact .inr ⟨_, rfl, k _ Z H (.refl e) (.int _)⟩
  · cases hf
theorem callS_abs : CallS K (fun xs H Q => ∃ i, xs = [.int i] ∧ Q (.int (if i < 0 then -i else i)) H) fAbs := by
  intro vs ds R Z H Q e r hf k
  unfold fAbs at hf
  split at hf
  · cases hf
    obtain ⟨v, rfl, r1⟩ := Paired.one r
    rw [r1.int]
    exact ⟨_, rfl, k _ Z H (.refl e) (.int _)⟩
  · cases hf
theorem callS_str : CallS K (fun xs H Q => ∃ i, xs = [.int i] ∧ i.natAbs.log2 < 1920 ∧ Q (.str (toString i : String)) H) fStr1 := by
  intro vs ds R Z H Q e r hf k
  unfold fStr1 at hf
  split at hf
  · split at hf
    · cases hf
      obtain ⟨v, rfl, r1⟩ := Paired.one r
      rw [r1.int]
      exact ⟨_, rfl, ‹_›, k _ Z H (.refl e) (.str _)⟩
    · cases hf
  · cases hf
theorem callS_max2 : CallS K (fun xs H Q => ∃ i j, xs = [.int i, .int j] ∧ Q (.int (if j > i then j else i)) H) fMax2 := by
  intro vs ds R Z H Q e r hf k
  unfold fMax2 at hf
  split at hf
  · cases hf
    obtain ⟨v, w, rfl, r1, r2⟩ := Paired.two r
    rw [r1.int, r2.int]
    exact ⟨_, _, rfl, k _ Z H (.refl e) (.int _)⟩
  · cases hf
theorem callS_min2 : CallS K (fun xs H Q => ∃ i j, xs = [.int i, .int j] ∧ Q (.int (if j < i then j else i)) H) fMin2 := by
  intro vs ds R Z H Q e r hf k
  unfold fMin2 at hf
  split at hf
  · cases hf
    obtain ⟨v, w, rfl, r1, r2⟩ := Paired.two r
    rw [r1.int, r2.int]
    exact ⟨_, _, rfl, k _ Z H (.refl e) (.int _)⟩
  · cases hf
theorem ints_arg {Z H : Hp} {vs : List V} {xs : List D} {ns : List Int} (e : Same Z H) (r : Paired (Rdb K Z H) vs [.list xs]) (h : intsOf xs = some ns) : ∃ a, vs = [.ref a] ∧ SqL K H a (ns.map V.int) := by
  obtain ⟨v, rfl, r1⟩ := Paired.one r
  obtain ⟨b, ws, rfl, hb, rb⟩ := r1.list e
  rw [intsOf_eq h] at rb
  rw [rb.of_ints] at hb
  exact ⟨b, rfl, SqL.of hb⟩
theorem bools_arg {Z H : Hp} {vs : List V} {xs : List D} {ns : List Bool} (e : Same Z H) (r : Paired (Rdb K Z H) vs [.list xs]) (h : boolsOf xs = some ns) : ∃ a, vs = [.ref a] ∧ SqL K H a (ns.map V.bl) := by
  obtain ⟨v, rfl, r1⟩ := Paired.one r
  obtain ⟨b, ws, rfl, hb, rb⟩ := r1.list e
  rw [boolsOf_eq h] at rb
  rw [rb.of_bools] at hb
  exact ⟨b, rfl, SqL.of hb⟩
theorem callS_sum : CallS K (rSum K) fSum := by
  intro vs ds R Z H Q e r hf k
  unfold fSum at hf
  split at hf
  · rename_i xs
    cases q : intsOf xs with
    | none => rw [q] at hf; cases hf
    | some ns =>
      rw [q] at hf; cases hf
      obtain ⟨a, rfl, ha⟩ := ints_arg e r q
      exact ⟨a, ns, rfl, ha, k _ Z H (.refl e) (.int _)⟩
  · cases hf
theorem callS_all : CallS K (rAll K) fAll := by
  intro vs ds R Z H Q e r hf k
  unfold fAll at hf
  split at hf
  · rename_i xs
    cases q : boolsOf xs with
    | none => rw [q] at hf; cases hf
    | some ns =>
      rw [q] at hf; cases hf
      obtain ⟨a, rfl, ha⟩ := bools_arg e r q
      exact ⟨a, ns, rfl, ha, k _ Z H (.refl e) (.bl _)⟩
  · cases hf
theorem callS_any : CallS K (rAny K) fAny := by
  intro vs ds R Z H Q e r hf k
  unfold fAny at hf
  split at hf
  · rename_i xs
    cases q : boolsOf xs with
    | none => rw [q] at hf; cases hf
    | some ns =>
      rw [q] at hf; cases hf
      obtain ⟨a, rfl, ha⟩ := bools_arg e r q
      exact ⟨a, ns, rfl, ha, k _ Z H (.refl e) (.bl _)⟩
  · cases hf
theorem callS_max1 : CallS K (rMax K) fMax1 := by
  intro vs ds R Z H Q e r hf k
  unfold fMax1 at hf
  split at hf
  · rename_i xs
    split at hf
    · rename_i n ns q
      cases hf
      obtain ⟨a, rfl, ha⟩ := ints_arg e r q
      refine ⟨a, n :: ns, rfl, ha, by simp, fun m hm hle => ?_⟩
      have e1 : m = maxI (n :: ns) := by
        have h1 := maxI_ge m hm
        have h2 := hle _ (maxI_mem (ns := n :: ns) (by simp))
        omega
      rw [e1]
      exact k _ Z H (.refl e) (.int _)
    · cases hf
  · cases hf
theorem callS_min1 : CallS K (rMin K) fMin1 := by
  intro vs ds R Z H Q e r hf k
  unfold fMin1 at hf
  split at hf
  · rename_i xs
    split at hf
    · rename_i n ns q
      cases hf
      obtain ⟨a, rfl, ha⟩ := ints_arg e r q
      refine ⟨a, n :: ns, rfl, ha, by simp, fun m hm hle => ?_⟩
      have e1 : m = minI (n :: ns) := by
        have h1 := minI_le m hm
        have h2 := hle _ (minI_mem (ns := n :: ns) (by simp))
        omega
      rw [e1]
      exact k _ Z H (.refl e) (.int _)
    · cases hf
  · cases hf
theorem callS_sorted : CallS K (rSortedI K) fSorted := by
  intro vs ds R Z H Q e r hf k
  unfold fSorted at hf
  split at hf
  · rename_i xs
    cases q : intsOf xs with
    | none => rw [q] at hf; cases hf
    | some ns =>
      rw [q] at hf; cases hf
      obtain ⟨a, rfl, ha⟩ := ints_arg e r q
      refine ⟨a, ns, rfl, ha, fun ms p pm so hp => ?_⟩
      have e1 : ms = sortI ns := sorted_unique (pm.trans (sortI_perm ns).symm) so (sortI_sorted ns)
      rw [e1]
      exact k _ Z _ (.loose e hp _) ⟨p, _, rfl, hp, none_of_same e hp, upd_same, .ints _⟩
  · cases hf
end
/-! ### texts -/
def fJoin : D → List D → Option Rs
  | .str a, [.list xs] => match strsOf xs with
    | some ys => if (ys.map (·.length)).sum + ys.length * a.length ≤ 16000000 then some (.pu (.str (Txt.join a ys))) else none
    | none => none
  | .str a, [.tuple xs] => match strsOf xs with
    | some ys => if (ys.map (·.length)).sum + ys.length * a.length ≤ 16000000 then some (.pu (.str (Txt.join a ys))) else none
    | none => none
  | _, _ => none
def fSplit : D → List D → Option Rs
  | .str a, [.str b] => if (b.length == 0) = false ∧ a.length + 2 ≤ 16000000 then some (.nw (.li ((Txt.split a b).map PyData.str))) else none
  | _, _ => none
section
variable {K : PySem.W.Frag}
theorem metS_join : MetS K (fun x xs H Q => ∃ a p, ∃ ys : List Str, x = .str a ∧ xs = [.ref p] ∧ (SqL K H p (ys.map V.str) ∨ SqT K H p (ys.map V.str)) ∧
    (ys.map (·.length)).sum + ys.length * a.length ≤ 16777216 ∧ Q (.str (Txt.join a ys)) H) fJoin := by
  intro x d vs ds R Z H Q e rx r hf k
  unfold fJoin at hf
  split at hf
  · rename_i a xs
    split at hf
    · rename_i ys hy
      split at hf
      · cases hf
        obtain ⟨v, rfl, r1⟩ := Paired.one r
        obtain ⟨b, ws, rfl, hb, rb⟩ := r1.list e
        rw [strsOf_eq hy] at rb
        rw [rb.of_strs] at hb
        exact ⟨a, b, ys, rx.str, rfl, .inl (SqL.of hb), by omega, k _ Z H (.refl e) (.str _)⟩
      · cases hf
    · cases hf
  · rename_i a xs
    split at hf
    · rename_i ys hy
      split at hf
      · cases hf
        obtain ⟨v, rfl, r1⟩ := Paired.one r
        obtain ⟨b, ws, rfl, hb, rb, _⟩ := r1.tup e
        rw [strsOf_eq hy] at rb
        rw [rb.of_strs] at hb
        exact ⟨a, b, ys, rx.str, rfl, .inr (SqT.of hb), by omega, k _ Z H (.refl e) (.str _)⟩
      · cases hf
    · cases hf
  · cases hf
theorem metS_split : MetS K (fun x xs H Q => ∃ a b, x = .str a ∧ xs = [.str b] ∧ (b.length == 0) = false ∧ a.length + 2 ≤ sizeLine ∧ rNewStrs (Txt.split a b) H Q) fSplit := by
  intro x d vs ds R Z H Q e rx r hf k
  unfold fSplit at hf
  split at hf
  · rename_i a b
    split at hf
    · rename_i h
      cases hf
      obtain ⟨v, rfl, r1⟩ := Paired.one r
      rw [rx.str, r1.str]
      exact ⟨a, b, rfl, rfl, h.1, lim_le h.2, fun p hp => k _ Z _ (.loose e hp _) ⟨p, _, rfl, hp, none_of_same e hp, upd_same, .strs _⟩⟩
    · cases hf
  · cases hf
end
end Ow
namespace Ow
open PySem L2
/-! ### statements -/
inductive Mo where
  | st
  | nx (ρ : Rho)
  | rt (r : Rs) (ρ : Rho)
  | bk (ρ : Rho)
  | ct (ρ : Rho)
  | ex (x : Xn) (ρ : Rho)
abbrev Os := Rho → Mo
def M.bindS {α : Type} (m : M α) (f : α → Rho → Mo) : Mo := match m with
  | .st => .st
  | .ok a ρ => f a ρ
  | .ex x ρ => .ex x ρ
@[simp] theorem M.bindS_ok {α : Type} (a : α) (ρ : Rho) (f : α → Rho → Mo) : (M.ok a ρ).bindS f = f a ρ := rfl
@[simp] theorem M.bindS_st {α : Type} (f : α → Rho → Mo) : (M.st : M α).bindS f = .st := rfl
@[simp] theorem M.bindS_ex {α : Type} (x : Xn) (ρ : Rho) (f : α → Rho → Mo) : (M.ex x ρ : M α).bindS f = .ex x ρ := rfl
def Mo.then (m : Mo) (f : Os) : Mo := match m with
  | .nx ρ => f ρ
  | m => m
@[simp] theorem Mo.then_nx (ρ : Rho) (f : Os) : (Mo.nx ρ).then f = f ρ := rfl
@[simp] theorem Mo.then_st (f : Os) : (Mo.st).then f = .st := rfl
@[simp] theorem Mo.then_rt (r : Rs) (ρ : Rho) (f : Os) : (Mo.rt r ρ).then f = .rt r ρ := rfl
@[simp] theorem Mo.then_bk (ρ : Rho) (f : Os) : (Mo.bk ρ).then f = .bk ρ := rfl
@[simp] theorem Mo.then_ct (ρ : Rho) (f : Os) : (Mo.ct ρ).then f = .ct ρ := rfl
@[simp] theorem Mo.then_ex (x : Xn) (ρ : Rho) (f : Os) : (Mo.ex x ρ).then f = .ex x ρ := rfl
section
variable (K : PySem.W.Frag) (G : Gm) (B : Wish)
def PostS (Z : Hp) (m : Mo) (D : Ends) : Prop := match m with
  | .st => False
  | .nx ρ => ∀ σ Z' H', Same Z Z' → Sim K G Z' ρ σ H' → D.nx σ H'
  | .bk ρ => ∀ σ Z' H', Same Z Z' → Sim K G Z' ρ σ H' → D.bk σ H'
  | .ct ρ => ∀ σ Z' H', Same Z Z' → Sim K G Z' ρ σ H' → D.ct σ H'
  | .rt r ρ => ∀ v σ Z' H', Same Z Z' → Sim K G Z' ρ σ H' → RsR K G Z' ρ σ H' v r → D.rt v H'
  | .ex x ρ => ∀ σ Z' H', Same Z Z' → Sim K G Z' ρ σ H' → B x ρ Z' σ H'
def RunS (o : Os) : TS := fun D σ H => ∃ Z ρ, Sim K G Z ρ σ H ∧ PostS K G B Z (o ρ) D
end
def SD (X : Cx) (G : Gm) (B : Wish) (st : Stmt) (o : Os) : Prop := PS X st (RunS X.K G B o)
def BD (X : Cx) (G : Gm) (B : Wish) (st : List Stmt) (o : Os) : Prop := PSs X st (RunS X.K G B o)
theorem PostS.mono {K : PySem.W.Frag} {G : Gm} {B : Wish} {Z Z1 : Hp} {m : Mo} {D : Ends} (h : PostS K G B Z m D) (e : Same Z Z1) : PostS K G B Z1 m D := by
  cases m with
  | st => exact h
  | nx ρ => exact fun σ Z' H' e' => h σ Z' H' (e.trans e')
  | bk ρ => exact fun σ Z' H' e' => h σ Z' H' (e.trans e')
  | ct ρ => exact fun σ Z' H' e' => h σ Z' H' (e.trans e')
  | rt r ρ => exact fun v σ Z' H' e' => h v σ Z' H' (e.trans e')
  | ex x ρ => exact fun σ Z' H' e' => h σ Z' H' (e.trans e')
theorem PostS.bind {K : PySem.W.Frag} {G : Gm} {B : Wish} {α β : Type} {R : Rel α β} {σ : St} {Z : Hp} {m : M α} {f : α → Rho → Mo} {D : Ends} {C : β → Hp → Prop} (h : PostS K G B Z (m.bindS f) D)
    (k : ∀ x a ρ1 Z1 H1, Same Z Z1 → Sim K G Z1 ρ1 σ H1 → R Z1 ρ1 σ H1 x a → PostS K G B Z1 (f a ρ1) D → C x H1) : Post K G B R σ Z m C := by
  cases m with
  | st => exact h
  | ex x ρ => exact fun Z' H' e S => h σ Z' H' e S
  | ok a ρ1 =>
    intro v Z' H' e S r
    exact k v a ρ1 Z' H' e S r (PostS.mono (m := f a ρ1) h e)
theorem runS_bind {K : PySem.W.Frag} {G : Gm} {B : Wish} {α β : Type} {R : Rel α β} {σ : St} {H : Hp} {o : O α} {f : α → Rho → Mo} {D : Ends} {C : β → Hp → Prop} (h : RunS K G B (fun ρ => (o ρ).bindS f) D σ H)
    (k : ∀ x a ρ1 Z1 H1, Sim K G Z1 ρ1 σ H1 → R Z1 ρ1 σ H1 x a → PostS K G B Z1 (f a ρ1) D → C x H1) : Run K G B R o σ H C := by
  obtain ⟨Z, ρ, S, p⟩ := h
  exact ⟨Z, ρ, S, PostS.bind p fun x a ρ1 Z1 H1 _ S1 r p1 => k x a ρ1 Z1 H1 S1 r p1⟩
def oSeq (a b : Os) : Os := fun ρ => (a ρ).then b
def oNext : Os := fun ρ => .nx ρ
def oBreak : Os := fun ρ => .bk ρ
def oCont : Os := fun ρ => .ct ρ
def oDrop {α : Type} (o : O α) : Os := fun ρ => (o ρ).bindS fun _ ρ1 => .nx ρ1
def oRet (o : O Rs) : Os := fun ρ => (o ρ).bindS fun r ρ1 => .rt r ρ1
def oRetN : Os := fun ρ => .rt (.pu .none) ρ
def oRetV (i : Nat) : Os := fun ρ => match ρ[i]? with
  | some (.pu d) => .rt (.pu d) ρ
  | some (.ow false c) => .rt (.nw c) (ρ.set i .no)
  | _ => .st
def oIfS (c : O Bool) (a b : Os) : Os := fun ρ => (c ρ).bindS fun t ρ1 => if t = true then a ρ1 else b ρ1
section
variable {X : Cx} {G : Gm} {B : Wish} {st : Stmt} {rest : List Stmt} {a b : Os} {e c : Expr} {pos : Pos}
theorem seq_post {K : PySem.W.Frag} {Z : Hp} {m : Mo} {b : Os} {D : Ends} (h : PostS K G B Z (m.then b) D) : PostS K G B Z m { D with nx := fun σ H => RunS K G B b D σ H } := by
  cases m with
  | nx ρ => exact fun σ Z' H' e S => ⟨Z', ρ, S, PostS.mono (m := b ρ) h e⟩
  | st => exact h
  | bk ρ => exact h
  | ct ρ => exact h
  | rt r ρ => exact h
  | ex x ρ => exact h
theorem bd_nil : BD X G B [] oNext := pss_imp pss_nil fun D σ H ⟨Z, ρ, S, p⟩ => p σ Z H (.refl _) S
theorem bd_one (h : SD X G B st a) : BD X G B [st] a := pss_one h
theorem bd_cons (h : SD X G B st a) (h' : BD X G B rest b) : BD X G B (st :: rest) (oSeq a b) :=
  pss_imp (pss_cons h h') fun D σ H ⟨Z, ρ, S, p⟩ => ⟨Z, ρ, S, seq_post p⟩
theorem sd_pass : SD X G B (.Pass pos) oNext := ps_imp ps_pass fun D σ H ⟨Z, ρ, S, p⟩ => p σ Z H (.refl _) S
theorem sd_break : SD X G B (.Break pos) oBreak := ps_imp ps_break fun D σ H ⟨Z, ρ, S, p⟩ => p σ Z H (.refl _) S
theorem sd_continue : SD X G B (.Continue pos) oCont := ps_imp ps_continue fun D σ H ⟨Z, ρ, S, p⟩ => p σ Z H (.refl _) S
theorem sd_expr {o : O Va} (h : ED X G B e o) (hs : swapsWith e none pos.line X.env = pure false := by rfl) : SD X G B (.Expr e pos) (oDrop o) :=
  ps_imp (ps_expr h hs) fun D σ H w => runS_bind w fun x r ρ1 Z1 H1 S1 q p1 => p1 σ Z1 H1 (.refl _) S1
theorem sd_exprR {o : O Rs} (h : RD X G B e o) (hs : swapsWith e none pos.line X.env = pure false := by rfl) : SD X G B (.Expr e pos) (oDrop o) :=
  ps_imp (ps_expr h hs) fun D σ H w => runS_bind w fun x r ρ1 Z1 H1 S1 q p1 => p1 σ Z1 H1 (.refl _) S1
theorem sd_ret {o : O Rs} (h : RD X G B e o) : SD X G B (.Return (some e) pos) (oRet o) :=
  ps_imp (ps_ret h) fun D σ H w => runS_bind w fun x r ρ1 Z1 H1 S1 q p1 => p1 x σ Z1 H1 (.refl _) S1 q
theorem sd_retN : SD X G B (.Return none pos) oRetN := ps_imp ps_retN fun D σ H ⟨Z, ρ, S, p⟩ => p .non σ Z H (.refl _) S .non
theorem sd_if {o : O Bool} {as bs : List Stmt} (hc : TD X G B c o) (ha : BD X G B as a) (hb : BD X G B bs b) : SD X G B (.If c as bs pos) (oIfS o a b) :=
  ps_imp (ps_if hc ha hb) fun D σ H w => runS_bind w fun x k ρ1 Z1 H1 S1 q p1 => by
    have q : x = k := q
    subst q
    cases x with
    | true => exact ⟨Z1, ρ1, S1, p1⟩
    | false => exact ⟨Z1, ρ1, S1, p1⟩
theorem Sim.drop {K : PySem.W.Frag} {Z : Hp} {ρ : Rho} {σ : St} {H : Hp} (S : Sim K G Z ρ σ H) {i : Nat} {c : Ct} (h : ρ[i]? = some (Sl.ow false c)) : Sim K G Z (ρ.set i .no) σ H := by
  have hi : i < ρ.length := (List.getElem?_eq_some_iff.mp h).1
  have g : ∀ (j : Nat) s, (ρ.set i .no)[j]? = some s → s ≠ .no → j ≠ i ∧ ρ[j]? = some s := fun j s e n => by
    by_cases hj : j = i
    · subst hj; rw [List.getElem?_set_self hi] at e; cases e; exact absurd rfl n
    · rw [List.getElem?_set_ne (Ne.symm hj)] at e; exact ⟨hj, e⟩
  refine ⟨S.zz, S.zh, S.fr, S.nw, fun j d e => S.pu j d (g j _ e (by simp)).2, fun j p c e => S.ow j p c (g j _ e (by simp)).2, fun j k p q c d n e1 e2 => S.ne j k p q c d n (g j _ e1 (by simp)).2 (g k _ e2 (by simp)).2, fun j x hj => ?_, by rw [List.length_set]; exact S.len⟩
  obtain ⟨q, c', hc'⟩ := S.pin j x hj
  refine ⟨q, c', ?_⟩
  rw [List.getElem?_set_ne]
  · exact hc'
  · intro e; subst e; rw [h] at hc'; cases hc'
theorem sd_retV (i : Nat) {x : Str} {p : Pos} (hN : X.N[i]? = some x := by rfl) (hv : Vis X.env.scope x := by first | exact Or.inl rfl | exact Or.inr (Or.inl rfl) | exact Or.inr (Or.inr rfl)) (hd : (x == ("__debug__" : Str)) = false := by decide)
    (hcd : (x == ("__classdict__" : Str)) = false := by decide) : SD X G B (.Return (some (.Name x p)) pos) (oRetV i) := by
  refine ps_imp (ps_ret (pe_var (i := i) hN hv hd hcd)) ?_
  rintro D σ H ⟨Z, ρ, S, p⟩
  unfold oRetV at p
  split at p
  · rename_i d h
    obtain ⟨v, q, r⟩ := S.pu i d h
    exact ⟨v, q, p v σ Z H (.refl _) S r⟩
  · rename_i c h
    obtain ⟨a, o, q, ho, r, z, _, n⟩ := S.ow i _ c h
    refine ⟨_, q, p _ σ Z H (.refl _) (S.drop h) ⟨a, o, rfl, ho, r, z, n rfl, fun j b c' hj q' => ?_⟩⟩
    have hi : i < ρ.length := (List.getElem?_eq_some_iff.mp h).1
    by_cases hj' : j = i
    · subst hj'; rw [List.getElem?_set_self hi] at hj; cases hj
    · rw [List.getElem?_set_ne (Ne.symm hj')] at hj
      exact S.ne j i _ _ _ _ hj' hj h (q'.trans q.symm)
  · exact p.elim
end
/-! ### stores to names -/
def setSl (ρ : Rho) (i : Nat) (s : Sl) : Option Rho := match ρ[i]? with
  | some (.ow true _) => none
  | some _ => some (ρ.set i s)
  | none => none
section
variable {K : PySem.W.Frag} {G : Gm} {Z : Hp} {ρ ρ' : Rho} {σ : St} {H : Hp} {i : Nat} {v : V}
theorem Sim.put (S : Sim K G Z ρ σ H) {s : Sl} (h : setSl ρ i s = some ρ') (hs : match s with
      | .no => True
      | .pu d => Rp K Z v d
      | .ow p c => p = false ∧ ∃ a o, v = V.ref a ∧ H a = some o ∧ CtR K Z o c ∧ Z a = none ∧ G.H0 a = none ∧ ∀ (i : Nat) p c, ρ[i]? = some (Sl.ow p c) → σ[i]? ≠ some (some (V.ref a))) : Sim K G Z ρ' (σ.set i (some v)) H := by
  unfold setSl at h
  split at h
  · cases h
  · rename_i s0 hp h0
    cases h
    have hi : i < ρ.length := (List.getElem?_eq_some_iff.mp h0).1
    have hi' : i < σ.length := by rw [← S.len]; exact hi
    have nop : ∀ c, ρ[i]? ≠ some (Sl.ow true c) := fun c e => by rw [h0] at e; cases e; exact hp c rfl
    have g : ∀ (j : Nat) t, (ρ.set i s)[j]? = some t → (j = i ∧ t = s) ∨ (j ≠ i ∧ ρ[j]? = some t) := fun j t e => by
      by_cases hj : j = i
      · subst hj; rw [List.getElem?_set_self hi] at e; cases e; exact .inl ⟨rfl, rfl⟩
      · rw [List.getElem?_set_ne (Ne.symm hj)] at e; exact .inr ⟨hj, e⟩
    have gs : ∀ j : Nat, j ≠ i → (σ.set i (some v))[j]? = σ[j]? := fun j hj => by rw [List.getElem?_set_ne (Ne.symm hj)]
    have gi : (σ.set i (some v))[i]? = some (some v) := List.getElem?_set_self hi'
    refine ⟨S.zz, S.zh, S.fr, S.nw, fun j d e => ?_, fun j p c e => ?_, fun j k p q c d n e1 e2 => ?_, fun j x hj => ?_, by rw [List.length_set, List.length_set]; exact S.len⟩
    · rcases g j _ e with ⟨rfl, rfl⟩ | ⟨hj, e⟩
      · exact ⟨v, gi, hs⟩
      · rw [gs j hj]; exact S.pu j d e
    · rcases g j _ e with ⟨rfl, rfl⟩ | ⟨hj, e⟩
      · obtain ⟨rfl, a, o, rfl, ho, r, z, n, _⟩ := hs
        exact ⟨a, o, gi, ho, r, z, (fun q => by cases q), fun _ => n⟩
      · rw [gs j hj]; exact S.ow j p c e
    · rcases g j _ e1 with ⟨rfl, rfl⟩ | ⟨hj, e1'⟩
      · rcases g k _ e2 with ⟨rfl, _⟩ | ⟨hk, e2'⟩
        · exact absurd rfl n
        · obtain ⟨_, a, o, rfl, _, _, _, _, nn⟩ := hs
          rw [gi, gs k hk]
          exact fun e => nn k q d e2' e.symm
      · rcases g k _ e2 with ⟨rfl, rfl⟩ | ⟨hk, e2'⟩
        · obtain ⟨_, a, o, rfl, _, _, _, _, nn⟩ := hs
          rw [gi, gs j hj]
          exact nn j p c e1'
        · rw [gs j hj, gs k hk]
          exact S.ne j k p q c d n e1' e2'
    · obtain ⟨q, c, hc⟩ := S.pin j x hj
      have hj' : j ≠ i := fun e => by subst e; exact nop c hc
      refine ⟨by rw [gs j hj']; exact q, c, ?_⟩
      rw [List.getElem?_set_ne (Ne.symm hj')]
      exact hc
  · cases h
end
def Rs.sl : Rs → Sl
  | .pu d => .pu d
  | .nw c => .ow false c
@[simp] theorem Rs.sl_pu (d : D) : (Rs.pu d).sl = .pu d := rfl
@[simp] theorem Rs.sl_nw (c : Ct) : (Rs.nw c).sl = .ow false c := rfl
def nx1 (o : Option Rho) : Mo := match o with
  | some ρ => .nx ρ
  | none => .st
@[simp] theorem nx1_some (ρ : Rho) : nx1 (some ρ) = .nx ρ := rfl
def oSet (i : Nat) (o : O Rs) : Os := fun ρ => (o ρ).bindS fun r ρ1 => nx1 (setSl ρ1 i r.sl)
section
variable {X : Cx} {G : Gm} {B : Wish} {e c : Expr} {pos pos' : Pos}
theorem put_res {K : PySem.W.Frag} {Z : Hp} {ρ ρ' : Rho} {σ : St} {H : Hp} {i : Nat} {v : V} {r : Rs} (S : Sim K G Z ρ σ H) (h : setSl ρ i r.sl = some ρ') (hr : RsR K G Z ρ σ H v r) : Sim K G Z ρ' (σ.set i (some v)) H := by
  refine S.put h ?_
  cases r with
  | pu d => exact hr
  | nw c =>
    obtain ⟨a, o, h1, h2, h3, h4, h5, h6⟩ := hr
    exact ⟨rfl, a, o, h1, h2, h3, h4, h5, h6⟩
theorem asg_name {K : PySem.W.Frag} {i : Nat} {o : O Rs} {D : Ends} {σ : St} {H : Hp} (w : RunS K G B (oSet i o) D σ H) : tAsg (Run K G B (RsR K G) o) (gName i) D σ H :=
  runS_bind (C := fun x H1 => D.nx (σ.set i (some x)) H1) w fun x r ρ1 Z1 H1 S1 q p1 => by
    cases h : setSl ρ1 i r.sl with
    | none => rw [h] at p1; exact p1.elim
    | some ρ' => rw [h] at p1; exact p1 _ Z1 H1 (.refl _) (put_res S1 h q)
theorem sd_set (i : Nat) {x : Str} {o : O Rs} (he : RD X G B e o) (hN : X.N.Nodup) (hi : X.N[i]? = some x := by rfl) (hx : Loc X.env.scope x := by first | exact Or.inl rfl | exact Or.inr rfl) (hs : swapsWith e (some (.Name x pos')) pos.line X.env = pure false := by rfl)
    (hf : X.fn x = true ∨ X.env.scope.names.lookup x = some .local := by first | exact .inl rfl | exact .inr rfl | assumption) : SD X G B (.Assign [.Name x pos'] e pos) (oSet i o) :=
  ps_imp (ps_set hN hi hx he hs hf) fun D σ H w => asg_name w
end
/-! ### targets -/
/-- a target that is given still data -/
def gRun (K : PySem.W.Frag) (G : Gm) (T : List Nat) (g : D → Rho → Option Rho) : TG := fun v σ H Q => ∃ Z ρ d ρ', Sim K G Z ρ σ H ∧ Rp K Z v d ∧ g d ρ = some ρ' ∧ ∀ σ' Z' H', σ'.length = σ.length → (∀ j : Nat, j ∉ T → σ'[j]? = σ[j]?) → Same Z Z' → Sim K G Z' ρ' σ' H' → Q σ' H'
def gsRun (K : PySem.W.Frag) (G : Gm) (T : List Nat) (g : List D → Rho → Option Rho) : TGs := fun vs σ H Q => ∃ Z ρ ds ρ', Sim K G Z ρ σ H ∧ RpAll K Z vs ds ∧ g ds ρ = some ρ' ∧ ∀ σ' Z' H', σ'.length = σ.length → (∀ j : Nat, j ∉ T → σ'[j]? = σ[j]?) → Same Z Z' → Sim K G Z' ρ' σ' H' → Q σ' H'
def GD (X : Cx) (G : Gm) (tg : Expr) (T : List Nat) (g : D → Rho → Option Rho) : Prop := PG X tg (gRun X.K G T g)
def GDs (X : Cx) (G : Gm) (tg : List Expr) (T : List Nat) (g : List D → Rho → Option Rho) : Prop := PGs X tg (gsRun X.K G T g)
def gNm (i : Nat) : D → Rho → Option Rho := fun d ρ => setSl ρ i (.pu d)
def gNl : List D → Rho → Option Rho := fun ds ρ => match ds with
  | [] => some ρ
  | _ => none
def gCn (g : D → Rho → Option Rho) (gs : List D → Rho → Option Rho) : List D → Rho → Option Rho := fun ds ρ => match ds with
  | d :: r => (g d ρ).bind (gs r)
  | [] => none
def gTp (n : Nat) (gs : List D → Rho → Option Rho) : D → Rho → Option Rho := fun d ρ => match d with
  | .tuple ds => if ds.length = n then gs ds ρ else none
  | .dict [(.bool true, .tuple ds)] => if ds.length = n then gs ds ρ else none
  | _ => none
section
variable {X : Cx} {G : Gm} {B : Wish} {e tg : Expr} {es : List Expr} {pos pos' : Pos}
theorem pg_imp {tg : Expr} {t t' : TG} (h : PG X tg t) (k : ∀ v σ H Q, t' v σ H Q → t v σ H Q) : PG X tg t' := ⟨fun pins s σ H v u Q I r w => h.run pins s σ H v u Q I r (k _ _ _ _ w)⟩
theorem pgs_imp {tg : List Expr} {t t' : TGs} (h : PGs X tg t) (k : ∀ v σ H Q, t' v σ H Q → t v σ H Q) : PGs X tg t' := ⟨fun pins s σ H v u Q I r w => h.run pins s σ H v u Q I r (k _ _ _ _ w)⟩
theorem gd_name (i : Nat) {x : Str} (hN : X.N.Nodup) (hi : X.N[i]? = some x := by rfl) (hx : Loc X.env.scope x := by first | exact Or.inl rfl | exact Or.inr rfl) (hf : X.fn x = true ∨ X.env.scope.names.lookup x = some .local := by first | exact .inl rfl | exact .inr rfl | assumption) :
    GD X G (.Name x pos) [i] (gNm i) := pg_imp (pg_name hN hi hx hf) fun v σ H Q ⟨Z, ρ, d, ρ', S, r, h, k⟩ => k _ Z H List.length_set (fun j hj => by rw [List.getElem?_set_ne]; intro e; exact hj (by simp [e])) (.refl _) (S.put h r)
theorem gds_nil : GDs X G [] [] gNl := pgs_imp pgs_nil fun v σ H Q ⟨Z, ρ, d, ρ', S, r, h, k⟩ => by
  unfold gNl at h
  split at h
  · cases h; cases r; exact ⟨rfl, k σ Z H rfl (fun _ _ => rfl) (.refl _) S⟩
  · cases h
theorem gds_cons {T T' : List Nat} {g : D → Rho → Option Rho} {gs : List D → Rho → Option Rho} (h1 : GD X G e T g) (h2 : GDs X G es T' gs)
    (hs : (assignEach (e :: es) X.env).map (·.2) = assign e X.env :: (assignEach es X.env).map (·.2) := by rfl) : GDs X G (e :: es) (T ++ T') (gCn g gs) :=
  pgs_imp (pgs_cons h1 h2 hs) fun v σ H Q ⟨Z, ρ, d, ρ', S, r, h, k⟩ => by
    unfold gCn at h
    split at h
    · rename_i d ds
      cases r with
      | cons r1 r2 =>
        cases q : g d ρ with
        | none => rw [q] at h; cases h
        | some ρ1 =>
          rw [q] at h
          exact ⟨_, _, rfl, Z, ρ, d, ρ1, S, r1, q, fun σ1 Z1 H1 l1 j1 e1 S1 => ⟨Z1, ρ1, ds, ρ', S1, r2.mono e1, h, fun σ2 Z2 H2 l2 j2 e2 => k σ2 Z2 H2 (l2.trans l1) (fun j hj => (j2 j fun q => hj (List.mem_append_right _ q)).trans (j1 j fun q => hj (List.mem_append_left _ q))) (e1.trans e2)⟩⟩
    · cases h
theorem gd_tup {T : List Nat} {k n : Nat} {gs : List D → Rho → Option Rho} (hc : X.calm = true) (h : GDs X G es T gs)
    (hn : (assignEach es X.env).length = n := by rfl) (hst : (assignEach es X.env).findIdx? (·.1) = none := by rfl) : GD X G (.Tuple es k pos) T (gTp n gs) :=
  pg_imp (pg_tup hc h hn hst) fun v σ H Q ⟨Z, ρ, d, ρ', S, r, h, k⟩ => by
    unfold gTp at h
    split at h
    · split at h
      · rename_i hl
        cases r with
        | tup r1 r2 => exact ⟨_, _, rfl, SqT.of (S.zh _ _ r1), by rw [r2.length]; exact hl, Z, ρ, _, ρ', S, r2, h, k⟩
      · cases h
    · split at h
      · rename_i hl
        cases r with
        | kon r1 r2 => exact ⟨_, _, rfl, sqT_mono S.zh r1, by rw [r2.length]; exact hl, Z, ρ, _, ρ', S, r2, h, k⟩
      · cases h
    · cases h
def oAsg (o : O D) (g : D → Rho → Option Rho) : Os := fun ρ => (o ρ).bindS fun d ρ1 => nx1 (g d ρ1)
theorem sd_asg {T : List Nat} {o : O D} {g : D → Rho → Option Rho} (he : PD X G B e o) (hg : GD X G tg T g) (hs : swapsWithSole [tg] e pos.line X.env = pure false := by rfl) (hw : swappedStores [tg] e X.env = pure none := by rfl)
    (h1 : (assignEach [tg] X.env).map (·.2) = [assign tg X.env] := by rfl) : SD X G B (.Assign [tg] e pos) (oAsg o g) :=
  ps_imp (ps_asg he hg hs hw h1) fun D σ H w => runS_bind (C := fun x H1 => gRun X.K G T g x σ H1 D.nx) w fun x d ρ1 Z1 H1 S1 q p1 => by
    cases h : g d ρ1 with
    | none => rw [h] at p1; exact p1.elim
    | some ρ' => rw [h] at p1; exact ⟨Z1, ρ1, d, ρ', S1, q, h, fun σ' Z' H' _ _ => p1 σ' Z' H'⟩
end
end Ow
namespace Ow
open PySem L2
/-! ### changes to what a slot owns -/
section
variable {K : PySem.W.Frag} {G : Gm} {Z : Hp} {ρ ρ' : Rho} {σ : St} {H : Hp} {i : Nat} {v : V}
theorem Sim.write (S : Sim K G Z ρ σ H) {p : Bool} {c c' : Ct} {a : Addr} {o' : HO} (h : ρ[i]? = some (Sl.ow p c)) (ha : σ[i]? = some (some (V.ref a))) (hc : CtR K Z o' c') : Sim K G Z (ρ.set i (.ow p c')) σ (upd H a o') := by
  obtain ⟨a', o, q, ho, r, z, l, n⟩ := S.ow i p c h
  rw [ha] at q
  cases q
  have hi : i < ρ.length := (List.getElem?_eq_some_iff.mp h).1
  have g : ∀ (j : Nat) t, (ρ.set i (.ow p c'))[j]? = some t → (j = i ∧ t = .ow p c') ∨ (j ≠ i ∧ ρ[j]? = some t) := fun j t e => by
    by_cases hj : j = i
    · subst hj; rw [List.getElem?_set_self hi] at e; cases e; exact .inl ⟨rfl, rfl⟩
    · rw [List.getElem?_set_ne (Ne.symm hj)] at e; exact .inr ⟨hj, e⟩
  refine ⟨S.zz, fun b u e => ?_, fun b u e nl => ?_, S.nw, fun j d e => ?_, fun j q d e => ?_, fun j k q q' c1 d n1 e1 e2 => ?_, fun j x hj => ?_, by rw [List.length_set]; exact S.len⟩
  · rw [upd_ne (ne_of_none e z)]; exact S.zh _ _ e
  · have hb : b ≠ a := fun e' => by
      subst e'
      cases p with
      | true => exact nl (l rfl)
      | false => rw [n rfl] at e; cases e
    rw [upd_ne hb]; exact S.fr b u e nl
  · rcases g j _ e with ⟨rfl, e'⟩ | ⟨hj, e⟩
    · cases e'
    · exact S.pu j d e
  · rcases g j _ e with ⟨rfl, e'⟩ | ⟨hj, e⟩
    · cases e'; exact ⟨a, o', ha, upd_same, hc, z, l, n⟩
    · obtain ⟨b, u, q1, hu, r1, z1, l1⟩ := S.ow j q d e
      have hb : b ≠ a := fun e' => by subst e'; exact S.ne j i _ _ _ _ hj e h (q1.trans ha.symm)
      exact ⟨b, u, q1, by rw [upd_ne hb]; exact hu, r1, z1, l1⟩
  · rcases g j _ e1 with ⟨rfl, e1'⟩ | ⟨hj, e1'⟩
    · rcases g k _ e2 with ⟨rfl, e2'⟩ | ⟨hk, e2'⟩
      · exact absurd rfl n1
      · exact S.ne j k _ _ _ _ n1 h e2'
    · rcases g k _ e2 with ⟨rfl, e2'⟩ | ⟨hk, e2'⟩
      · exact S.ne j k _ _ _ _ n1 e1' h
      · exact S.ne j k _ _ _ _ n1 e1' e2'
  · obtain ⟨q, c1, hc1⟩ := S.pin j x hj
    refine ⟨q, ?_⟩
    by_cases hj' : j = i
    · subst hj'
      rw [h] at hc1
      cases hc1
      exact ⟨c', List.getElem?_set_self hi⟩
    · exact ⟨c1, by rw [List.getElem?_set_ne (Ne.symm hj')]; exact hc1⟩
end
/-- a method that changes its list or dict: new content, answer -/
def MutS (K : PySem.W.Frag) (r : V → List V → Hp → VK → Prop) (f : Ct → List D → Option (Ct × D)) : Prop := ∀ (a : Addr) (o : HO) (c : Ct) (vs : List V) (ds : List D) (c' : Ct) (d : D) (Z H : Hp) (Q : VK), Same Z H → H a = some o → CtR K Z o c →
  Paired (Rdb K Z H) vs ds → f c ds = some (c', d) → (∀ v o', CtR K Z o' c' → Rp K Z v d → Q v (upd H a o')) → r (.ref a) vs H Q
def mut1 (i : Nat) (f : Ct → List D → Option (Ct × D)) (as : List Va) (ρ : Rho) : M D := match ρ[i]?, rdVs ρ as with
  | some (.ow p c), some ds => match f c ds with
    | some (c', d) => .ok d (ρ.set i (.ow p c'))
    | none => .st
  | _, _ => .st
def oMut (i : Nat) (f : Ct → List D → Option (Ct × D)) (oas : O (List Va)) : O D := fun ρ => match ρ[i]? with
  | some (.ow _ (.li _)) => (oas ρ).bind (mut1 i f)
  | _ => .st
section
variable {X : Cx} {G : Gm} {B : Wish} {name x : Str} {apos cpos npos : Pos} {e o : Expr} {es : List Expr} {id : String} {r : V → List V → Hp → VK → Prop} {f : Ct → List D → Option (Ct × D)} {oas : O (List Va)}
theorem mut1_run {K : PySem.W.Frag} (hf : MutS K r f) {i : Nat} {σ : St} {Z H : Hp} {ρ : Rho} {v : V} {vs : List V} {as : List Va} {Q : VK} (S : Sim K G Z ρ σ H) (q : σ[i]? = some (some v)) (rv : VasR K Z ρ σ H vs as)
    (p : Post K G B (PuR K) σ Z (mut1 i f as ρ) Q) : r v vs H Q := by
  unfold mut1 at p
  split at p
  · rename_i pn c ds h hd
    split at p
    · rename_i c' d hc
      obtain ⟨a, o, q', ho, r1, z, _⟩ := S.ow i _ _ h
      rw [q] at q'
      cases q'
      exact hf a o c vs ds c' d Z H Q S.zh ho r1 (S.rdbs rv hd) hc fun w o' hc' rw => p w Z _ (.refl _) (S.write h q hc') rw
    · exact p.elim
  · exact p.elim
theorem pd_mut (i : Nat) (slot : Slot "list" name id) (hty : typeOf (.builtin id) = pure (.type "method_descriptor")) (hm : MtR X id r) (hf : MutS X.K r f) (ha : AD X G B (e :: es) oas)
    (hN : X.N[i]? = some x := by rfl) (hv : Vis X.env.scope x := by first | exact Or.inl rfl | exact Or.inr (Or.inl rfl) | exact Or.inr (Or.inr rfl)) (hd : (x == ("__debug__" : Str)) = false := by decide)
    (hcd : (x == ("__classdict__" : Str)) = false := by decide)
    (hbase : attributeBase (.Name x npos) name X.env (eval (.Name x npos) X.env) = eval (.Name x npos) X.env := by rfl)
    (hfew : ((backTo cpos (starEach (e :: es) X.env)).all (fun x => !x.1) && (backToKw cpos (keywordEach [] X.env)).all (fun x => x.1.isSome)
      && decide ((e :: es).length + ([] : List Keyword).length + (if ([] : List Keyword).isEmpty then 0 else 1) < 30)) = true := by rfl)
    (hline : (apos.endLine == cpos.line) = true := by rfl) (hs : starEach (e :: es) X.env = (false, eval e X.env) :: starEach es X.env := by rfl) (hplain : (backTo cpos (starEach es X.env)).any (·.1) = false := by rfl) :
    PD X G B (.Call (.Attribute (.Name x npos) name apos) (e :: es) [] cpos) (oMut i f oas) := by
  refine pe_imp (pe_bm PySem.F.plainAttrs_list slot hty hm (pe_var (i := i) hN hv hd hcd) ha hbase hfew hline hs hplain) ?_
  rintro σ H Q ⟨Z, ρ, S, p⟩
  unfold oMut at p
  split at p
  · rename_i pn ds h
    obtain ⟨a, o, q, ho, r1, z, _⟩ := S.ow i _ _ h
    cases o with
    | lst vs => exact ⟨_, q, .inl ⟨rfl, vs, SqL.of ho⟩, Z, ρ, S, Post.bind p fun ws as ρ1 Z1 H1 e1 S1 r1 p1 => mut1_run hf S1 q r1 p1⟩
    | _ => exact r1.elim
  · exact p.elim
theorem pd_mut0 (i : Nat) (slot : Slot "list" name id) (hty : typeOf (.builtin id) = pure (.type "method_descriptor")) (hm : MtR X id r) (hf : MutS X.K r f)
    (hN : X.N[i]? = some x := by rfl) (hv : Vis X.env.scope x := by first | exact Or.inl rfl | exact Or.inr (Or.inl rfl) | exact Or.inr (Or.inr rfl)) (hd : (x == ("__debug__" : Str)) = false := by decide)
    (hcd : (x == ("__classdict__" : Str)) = false := by decide)
    (hbase : attributeBase (.Name x npos) name X.env (eval (.Name x npos) X.env) = eval (.Name x npos) X.env := by rfl) (hline : (apos.endLine == cpos.line) = true := by rfl) :
    PD X G B (.Call (.Attribute (.Name x npos) name apos) [] [] cpos) (oMut i f oNil) := by
  refine pe_imp (pe_bm0 PySem.F.plainAttrs_list slot hty hm (pe_var (i := i) hN hv hd hcd) hbase hline) ?_
  rintro σ H Q ⟨Z, ρ, S, p⟩
  unfold oMut at p
  split at p
  · rename_i pn ds h
    obtain ⟨a, o, q, ho, r1, z, _⟩ := S.ow i _ _ h
    cases o with
    | lst vs => exact ⟨_, q, .inl ⟨rfl, vs, SqL.of ho⟩, mut1_run hf S q .nil p⟩
    | _ => exact r1.elim
  · exact p.elim
/-- kept data as arguments -/
def oPus (o : O (List D)) : O (List Va) := fun ρ => (o ρ).bind fun ds ρ1 => .ok (ds.map Va.pu) ρ1
theorem vas_pus {K : PySem.W.Frag} {Z : Hp} {ρ : Rho} {σ : St} {H : Hp} : ∀ {vs : List V} {ds : List D}, RpAll K Z vs ds → VasR K Z ρ σ H vs (ds.map Va.pu)
  | _, [], h => by cases h; exact .nil
  | _, d :: ds, h => by
    cases h with
    | cons h1 h2 => exact .cons h1 (vas_pus h2)
theorem ad_qd {es : List Expr} {o : O (List D)} (h : QD X G B es o) : AD X G B es (oPus o) := pa_imp h fun σ H Q w => run_imp w fun x ds ρ1 Z1 H1 S1 r1 p1 => p1 x Z1 H1 (.refl _) S1 (vas_pus r1)
end
def fAppend : Ct → List D → Option (Ct × D)
  | .li xs, [d] => if xs.length < 16000000 then some (.li (xs ++ [d]), .none) else none
  | _, _ => none
def fExtend : Ct → List D → Option (Ct × D)
  | .li xs, [.list ys] => if xs.length + ys.length ≤ 16000000 then some (.li (xs ++ ys), .none) else none
  | _, _ => none
def fPop : Ct → List D → Option (Ct × D)
  | .li xs, [] => (xs[xs.length - 1]?).map fun d => (.li xs.dropLast, d)
  | _, _ => none
def fPopAt : Ct → List D → Option (Ct × D)
  | .li xs, [.int i] => if 0 ≤ i ∧ i < 4611686018427387904 then (xs[i.toNat]?).map fun d => (.li (xs.eraseIdx i.toNat), d) else none
  | _, _ => none
def fInsert : Ct → List D → Option (Ct × D)
  | .li xs, [.int i, d] => if 0 ≤ i ∧ i < 4611686018427387904 ∧ xs.length < 16000000 then some (.li (xs.take i.toNat ++ [d] ++ xs.drop i.toNat), .none) else none
  | _, _ => none
section
variable {K : PySem.W.Frag}
theorem Rdb.keptD {Z H : Hp} {v : V} {d : D} (h : Rdb K Z H v d) (n : ∀ ds, d ≠ .list ds) : Rp K Z v d := by
  rcases h with h | ⟨_, _, ds, _, e, _⟩
  · exact h
  · exact absurd e (n ds)
theorem mutS_extend : MutS K rExtend fExtend := by
  intro a o c vs ds c' d Z H Q e ho r rv hf k
  unfold fExtend at hf
  split at hf
  · split at hf
    · cases hf
      rename_i hz
      obtain ⟨v, rfl, r1⟩ := Paired.one rv
      obtain ⟨b, ws, rfl, hb, rb⟩ := r1.list e
      cases o with
      | lst us => exact ⟨a, b, us, ws, rfl, rfl, ho, hb, by rw [RpAll.length r, rb.length]; exact lim_le hz, k _ (.lst _) (RpAll.append r rb) .non⟩
      | _ => exact r.elim
    · cases hf
  · cases hf
theorem mutS_pop : MutS K rPop fPop := by
  intro a o c vs ds c' d Z H Q e ho r rv hf k
  unfold fPop at hf
  split at hf
  · rename_i xs
    cases q : xs[xs.length - 1]? with
    | none => rw [q] at hf; cases hf
    | some y =>
      rw [q] at hf
      cases hf
      cases rv
      cases o with
      | lst us =>
        obtain ⟨w, hw, rw'⟩ := RpAll.get r q
        exact ⟨a, us, w, rfl, rfl, ho, by rw [RpAll.length r]; exact hw, k _ (.lst _) (RpAll.dropLast r) rw'⟩
      | _ => exact r.elim
  · cases hf
theorem seqIndex_nat {i : Int} {n : Nat} (h0 : 0 ≤ i) (h1 : i.toNat < n) : seqIndex? i n = some i.toNat := by
  have q : ixN n i = some i.toNat := by unfold ixN; rw [if_pos h0, if_pos (by omega)]
  exact (ixN_seq q).1
theorem mutS_popAt : MutS K rPopAt fPopAt := by
  intro a o c vs ds c' d Z H Q e ho r rv hf k
  unfold fPopAt at hf
  split at hf
  · rename_i xs i
    split at hf
    · rename_i hi
      cases q : xs[i.toNat]? with
      | none => rw [q] at hf; cases hf
      | some y =>
        rw [q] at hf
        cases hf
        obtain ⟨v, rfl, r1⟩ := Paired.one rv
        rw [r1.int]
        cases o with
        | lst us =>
          obtain ⟨w, hw, rw'⟩ := RpAll.get r q
          have hl : i.toNat < us.length := (List.getElem?_eq_some_iff.mp hw).1
          exact ⟨a, us, i, i.toNat, w, rfl, rfl, ho, by omega, by omega, seqIndex_nat hi.1 hl, hw, k _ (.lst _) (RpAll.eraseIdx _ r) rw'⟩
        | _ => exact r.elim
    · cases hf
  · cases hf
end
/-- .. with kept arguments -/
def MutK (K : PySem.W.Frag) (r : V → List V → Hp → VK → Prop) (f : Ct → List D → Option (Ct × D)) : Prop := ∀ (a : Addr) (o : HO) (c : Ct) (vs : List V) (ds : List D) (c' : Ct) (d : D) (Z H : Hp) (Q : VK), Same Z H → H a = some o → CtR K Z o c →
  RpAll K Z vs ds → f c ds = some (c', d) → (∀ v o', CtR K Z o' c' → Rp K Z v d → Q v (upd H a o')) → r (.ref a) vs H Q
def mutK1 (i : Nat) (f : Ct → List D → Option (Ct × D)) (ds : List D) (ρ : Rho) : M D := match ρ[i]? with
  | some (.ow p c) => match f c ds with
    | some (c', d) => .ok d (ρ.set i (.ow p c'))
    | none => .st
  | _ => .st
def oMutK (i : Nat) (f : Ct → List D → Option (Ct × D)) (oas : O (List D)) : O D := fun ρ => match ρ[i]? with
  | some (.ow _ (.li _)) => (oas ρ).bind (mutK1 i f)
  | _ => .st
section
variable {X : Cx} {G : Gm} {B : Wish} {name x : Str} {apos cpos npos : Pos} {e o : Expr} {es : List Expr} {id : String} {r : V → List V → Hp → VK → Prop} {f : Ct → List D → Option (Ct × D)} {oas : O (List D)}
theorem mutK1_run {K : PySem.W.Frag} (hf : MutK K r f) {i : Nat} {σ : St} {Z H : Hp} {ρ : Rho} {v : V} {vs : List V} {ds : List D} {Q : VK} (S : Sim K G Z ρ σ H) (q : σ[i]? = some (some v)) (rv : RpAll K Z vs ds)
    (p : Post K G B (PuR K) σ Z (mutK1 i f ds ρ) Q) : r v vs H Q := by
  unfold mutK1 at p
  split at p
  · rename_i pn c h
    split at p
    · rename_i c' d hc
      obtain ⟨a, o, q', ho, r1, z, _⟩ := S.ow i _ _ h
      rw [q] at q'
      cases q'
      exact hf a o c vs ds c' d Z H Q S.zh ho r1 rv hc fun w o' hc' rw => p w Z _ (.refl _) (S.write h q hc') rw
    · exact p.elim
  · exact p.elim
theorem pd_mutK (i : Nat) (slot : Slot "list" name id) (hty : typeOf (.builtin id) = pure (.type "method_descriptor")) (hm : MtR X id r) (hf : MutK X.K r f) (ha : QD X G B (e :: es) oas)
    (hN : X.N[i]? = some x := by rfl) (hv : Vis X.env.scope x := by first | exact Or.inl rfl | exact Or.inr (Or.inl rfl) | exact Or.inr (Or.inr rfl)) (hd : (x == ("__debug__" : Str)) = false := by decide)
    (hcd : (x == ("__classdict__" : Str)) = false := by decide)
    (hbase : attributeBase (.Name x npos) name X.env (eval (.Name x npos) X.env) = eval (.Name x npos) X.env := by rfl)
    (hfew : ((backTo cpos (starEach (e :: es) X.env)).all (fun x => !x.1) && (backToKw cpos (keywordEach [] X.env)).all (fun x => x.1.isSome)
      && decide ((e :: es).length + ([] : List Keyword).length + (if ([] : List Keyword).isEmpty then 0 else 1) < 30)) = true := by rfl)
    (hline : (apos.endLine == cpos.line) = true := by rfl) (hs : starEach (e :: es) X.env = (false, eval e X.env) :: starEach es X.env := by rfl) (hplain : (backTo cpos (starEach es X.env)).any (·.1) = false := by rfl) :
    PD X G B (.Call (.Attribute (.Name x npos) name apos) (e :: es) [] cpos) (oMutK i f oas) := by
  refine pe_imp (pe_bm PySem.F.plainAttrs_list slot hty hm (pe_var (i := i) hN hv hd hcd) ha hbase hfew hline hs hplain) ?_
  rintro σ H Q ⟨Z, ρ, S, p⟩
  unfold oMutK at p
  split at p
  · rename_i pn ds h
    obtain ⟨a, o, q, ho, r1, z, _⟩ := S.ow i _ _ h
    cases o with
    | lst vs => exact ⟨_, q, .inl ⟨rfl, vs, SqL.of ho⟩, Z, ρ, S, Post.bind p fun ws as ρ1 Z1 H1 e1 S1 r1 p1 => mutK1_run hf S1 q r1 p1⟩
    | _ => exact r1.elim
  · exact p.elim
end
section
variable {K : PySem.W.Frag}
theorem mutK_append : MutK K rAppend fAppend := by
  intro a o c vs ds c' d Z H Q e ho r rv hf k
  unfold fAppend at hf
  split at hf
  · split at hf
    · cases hf
      rename_i hz
      cases rv with
      | cons r1 r2 =>
        cases r2
        cases o with
        | lst us => exact ⟨a, us, _, rfl, rfl, ho, by rw [RpAll.length r]; exact lim_lt hz, k _ (.lst _) (RpAll.append r (.one r1)) .non⟩
        | _ => exact r.elim
    · cases hf
  · cases hf
theorem mutK_insert : MutK K (fun x vs H Q => ∃ (l : Addr) (xs : List V) (i : Int) (y : V), x = .ref l ∧ vs = [.int i, y] ∧ H l = some (.lst xs) ∧ xs.length < sizeLine ∧ 0 ≤ i ∧ i < 2 ^ 63 ∧
    Q .non (upd H l (.lst (xs.take i.toNat ++ [y] ++ xs.drop i.toNat)))) fInsert := by
  intro a o c vs ds c' d Z H Q e ho r rv hf k
  unfold fInsert at hf
  split at hf
  · split at hf
    · cases hf
      rename_i hz
      cases rv with
      | cons r1 r2 =>
        cases r2 with
        | cons r2 r3 =>
          cases r3
          cases r1
          cases o with
          | lst us => exact ⟨a, us, _, _, rfl, rfl, ho, by rw [RpAll.length r]; exact lim_lt hz.2.2, hz.1, by omega, k _ (.lst _) (((RpAll.take _ r).append (.one r2)).append (RpAll.drop _ r)) .non⟩
          | _ => exact r.elim
    · cases hf
  · cases hf
end
end Ow
namespace Ow
open PySem L2
/-! ### x op= e -/
def fAddS : D → D → Option Rs
  | .str i, .str j => if i.length + j.length ≤ 16000000 then some (.pu (.str (i ++ j))) else none
  | _, _ => none
def fMulI : D → D → Option Rs
  | .int i, .int j => if mulOk i j = true then some (.pu (.int (i * j))) else none
  | _, _ => none
structure AugK (X : Cx) (op : Operator) (r : R2) (f : D → D → Option Rs) : Prop where
  o : PIp X op r
  s : BinS X.K r f
def aug1 (i : Nat) (f : D → D → Option Rs) (x : D) (b : Va) (ρ : Rho) : Mo := match rdV ρ b with
  | some dy => match f x dy with
    | some (.pu d) => nx1 (setSl ρ i (.pu d))
    | _ => .st
  | none => .st
def oAug (i : Nat) (f : D → D → Option Rs) (o : O Va) : Os := fun ρ => match ρ[i]? with
  | some (.pu x) => (o ρ).bindS (aug1 i f x)
  | _ => .st
section
variable {X : Cx} {G : Gm} {B : Wish} {e o ix : Expr} {pos pos' tpos npos : Pos} {op : Operator} {r : R2} {f : D → D → Option Rs} {x : Str}
theorem ak_add : AugK X .Add (rI0 fun i j => .int (i + j)) (fInt2 fun i j => i + j) := ⟨iop_add, binS_int⟩
theorem ak_addS : AugK X .Add (fun x y H Q => ∃ i j, x = .str i ∧ y = .str j ∧ i.length + j.length ≤ sizeLine ∧ Q (.str (i ++ j)) H) fAddS :=
  ⟨iop_add_str, by
    intro x y dx dy R Z H Q e rx ry hf k
    unfold fAddS at hf
    split at hf
    · split at hf
      · cases hf; exact ⟨_, _, rx.str, ry.str, lim_le ‹_›, k _ Z H (.refl e) (.str _)⟩
      · cases hf
    · cases hf⟩
theorem ak_sub : AugK X .Sub (rI0 fun i j => .int (i - j)) fSub := ⟨iop_sub, binS_int⟩
theorem ak_mul : AugK X .Mult (rI CMul fun i j => .int (i * j)) fMulI :=
  ⟨iop_mul, binS_intC fun a b R h => by
    unfold fMulI at h
    split at h
    · split at h
      · cases h; rename_i hd; exact ⟨_, _, rfl, rfl, mulOk_c hd, rfl⟩
      · cases h
    · cases h⟩
theorem ak_and : AugK X .BitAnd (rI0 fun i j => .int (Builtin.bitAnd i j)) fAnd := ⟨iop_and, binS_int⟩
theorem ak_or : AugK X .BitOr (rI0 fun i j => .int (Builtin.bitOr i j)) fOr := ⟨iop_or, binS_int⟩
theorem ak_xor : AugK X .BitXor (rI0 fun i j => .int (Builtin.bitXor i j)) fXor := ⟨iop_xor, binS_int⟩
theorem ak_shr : AugK X .RShift (rI (fun _ j => 0 ≤ j) fun i j => .int (i / 2 ^ j.toNat)) fShr := ⟨iop_shr, binS_shr⟩
theorem ak_shl : AugK X .LShift (rI CPow fun i j => .int (i * 2 ^ j.toNat)) fShl := ⟨iop_shl, binS_shl⟩
theorem sd_aug (i : Nat) {oe : O Va} (a : AugK X op r f) (he : ED X G B e oe) (hN : X.N.Nodup) (hi : X.N[i]? = some x := by rfl) (hx : Loc X.env.scope x := by first | exact Or.inl rfl | exact Or.inr rfl)
    (hf : X.fn x = true ∨ X.env.scope.names.lookup x = some .local := by first | exact .inl rfl | exact .inr rfl | assumption) : SD X G B (.AugAssign (.Name x pos') op e pos) (oAug i f oe) := by
  refine ps_imp (ps_aug hN hi hx he a.o hf) ?_
  rintro D σ H ⟨Z, ρ, S, p⟩
  unfold oAug at p
  split at p
  · rename_i d h
    obtain ⟨v, q, rv⟩ := S.pu i d h
    refine ⟨v, q, Z, ρ, S, PostS.bind p fun y b ρ1 Z1 H1 e1 S1 r1 p1 => ?_⟩
    unfold aug1 at p1
    split at p1
    · rename_i dy hy
      split at p1
      · rename_i dz hz
        refine a.s v y d dy _ Z1 H1 _ S1.zh (.inl (rv.mono e1)) (S1.rdb r1 hy) hz fun w Z' H' g rw => ?_
        cases h : setSl ρ1 i (.pu dz) with
        | none => rw [h] at p1; exact p1.elim
        | some ρ' => rw [h] at p1; exact p1 _ Z' H' g.z ((S1.grow g).put h rw)
      · exact p1.elim
    · exact p1.elim
  · exact p.elim
/-! ### xs[i] op= e, xs[i] = e -/
def rIxN (K : PySem.W.Frag) : R2 := fun x y H Q => ∃ p xs i v, x = .ref p ∧ y = .int i ∧ SqL K H p xs ∧ 0 ≤ i ∧ xs[i.toNat]? = some v ∧ Q v H
theorem get_list : PGet X (rIxN X.K) := by
  intro pins s σ H o i ov iv Q I ro ri h
  obtain ⟨p, xs, k, z, rfl, rfl, hq, h0, he, q⟩ := h
  cases ro
  obtain ⟨t, rfl⟩ := ri
  obtain ⟨its, r, pl, hz⟩ := I.list hq
  obtain ⟨u, hu, ru⟩ := r.get he
  have hl := r.length
  have h63 := line63
  have hk : k.toNat < xs.length := (List.getElem?_eq_some_iff.mp he).1
  exact wpAny_getItem_list pl.isList h0 (by omega) (by simpa using hu) ⟨z, H, I, ru, q⟩
end
/-- the place of a store -/
def stL (ds : List D) (i : D) (d : D) : Option Ct := match i with
  | .int j => (ixN ds.length j).map fun n => .li (ds.set n d)
  | _ => none
def stL1 (k : Nat) (d i : D) (ρ : Rho) : Mo := match ρ[k]? with
  | some (.ow p (.li ds)) => match stL ds i d with
    | some c => .nx (ρ.set k (.ow p c))
    | none => .st
  | _ => .st
def oStL (k : Nat) (ov oi : O D) : Os := fun ρ => (ov ρ).bindS fun d ρ1 => match ρ1[k]? with
  | some (.ow _ (.li _)) => (oi ρ1).bindS fun i ρ2 => stL1 k d i ρ2
  | _ => .st
/-- xs[i] op= e, for ints -/
def auL1 (k : Nat) (f : D → D → Option Rs) (j : Nat) (x : D) (d : D) (ρ : Rho) : Mo := match ρ[k]? with
  | some (.ow p (.li ds)) => match f x d with
    | some (.pu y) => if j < ds.length then .nx (ρ.set k (.ow p (.li (ds.set j y)))) else .st
    | _ => .st
  | _ => .st
def auL2 (k : Nat) (f : D → D → Option Rs) (oe : O D) (i : D) (ρ : Rho) : Mo := match ρ[k]?, i with
  | some (.ow _ (.li ds)), .int j => if 0 ≤ j then match ds[j.toNat]? with
    | some x => (oe ρ).bindS fun d ρ1 => auL1 k f j.toNat x d ρ1
    | none => .st
    else .st
  | _, _ => .st
def oAuL (k : Nat) (f : D → D → Option Rs) (oi oe : O D) : Os := fun ρ => match ρ[k]? with
  | some (.ow _ (.li _)) => (oi ρ).bindS (auL2 k f oe)
  | _ => .st
section
variable {X : Cx} {G : Gm} {B : Wish} {e o ix : Expr} {pos pos' tpos npos : Pos} {op : Operator} {r : R2} {f : D → D → Option Rs} {x : Str}
theorem sd_stL (k : Nat) {ov oi : O D} (hv : PD X G B e ov) (hi : PD X G B ix oi)
    (hN : X.N[k]? = some x := by rfl) (hvis : Vis X.env.scope x := by first | exact Or.inl rfl | exact Or.inr (Or.inl rfl) | exact Or.inr (Or.inr rfl)) (hd : (x == ("__debug__" : Str)) = false := by decide)
    (hcd : (x == ("__classdict__" : Str)) = false := by decide)
    (ha : ∀ v, assign (.Subscript (.Name x npos) ix pos') X.env v = (do
      let ov ← holding [v] (eval (.Name x npos) X.env)
      let iv ← holding [v, ov] (eval ix X.env)
      standAt pos'
      holding [v, ov, iv] (setItem ov iv v)
      release [v, ov, iv] []) := by intro _; rfl)
    (hs : swapsWithSole [.Subscript (.Name x npos) ix pos'] e pos.line X.env = pure false := by rfl) (hw : swappedStores [.Subscript (.Name x npos) ix pos'] e X.env = pure none := by rfl)
    (h1 : (assignEach [.Subscript (.Name x npos) ix pos'] X.env).map (·.2) = [assign (.Subscript (.Name x npos) ix pos') X.env] := by rfl) :
    SD X G B (.Assign [.Subscript (.Name x npos) ix pos'] e pos) (oStL k ov oi) :=
  ps_imp (ps_asg hv (pg_sub (pe_var (i := k) hN hvis hd hcd) hi set_list ha) hs hw h1) fun D σ H w => runS_bind (C := fun v H1 => gSub (tVar k) (Run X.K G B (PuR X.K) oi) rSetL v σ H1 D.nx) w fun v d ρ1 Z1 H1 S1 rv p1 => by
    split at p1
    · rename_i p ds h
      obtain ⟨a, ob, q, ho, r1, z, _⟩ := S1.ow k _ _ h
      refine ⟨_, q, Z1, ρ1, S1, PostS.bind p1 fun iv di ρ2 Z2 H2 e2 S2 r2 p2 => ?_⟩
      unfold stL1 at p2
      split at p2
      · rename_i p' ds' h'
        split at p2
        · rename_i c hc
          unfold stL at hc
          split at hc
          · rename_i j
            cases hj : ixN ds'.length j with
            | none => rw [hj] at hc; cases hc
            | some n =>
              rw [hj] at hc
              cases hc
              have q2 : Rp X.K Z2 iv (.int j) := r2
              cases q2
              obtain ⟨a2, o2, q2, ho2, r2', z2, _⟩ := S2.ow k _ _ h'
              rw [q] at q2
              cases q2
              cases o2 with
              | lst us => exact ⟨a, us, j, n, rfl, rfl, ho2, by rw [RpAll.length r2']; exact hj, p2 σ Z2 _ (.refl _) (S2.write h' q (RpAll.set (Rp.mono rv e2) n r2'))⟩
              | _ => exact r2'.elim
          · cases hc
        · exact p2.elim
      · exact p2.elim
    · exact p1.elim
theorem sd_auL (k : Nat) {oi oe : O D} (a : AugK X op r f) (hi : PD X G B ix oi) (he : PD X G B e oe)
    (hN : X.N[k]? = some x := by rfl) (hvis : Vis X.env.scope x := by first | exact Or.inl rfl | exact Or.inr (Or.inl rfl) | exact Or.inr (Or.inr rfl)) (hd : (x == ("__debug__" : Str)) = false := by decide)
    (hcd : (x == ("__classdict__" : Str)) = false := by decide)
    (ha : ∀ ov iv new, augStore ix ov iv new = (do holding [new, ov, iv] (setItem ov iv new); release [new, ov, iv] []; pure .next) := by intros; rfl) :
    SD X G B (.AugAssign (.Subscript (.Name x npos) ix tpos) op e pos) (oAuL k f oi oe) := by
  refine ps_imp (ps_augS (pe_var (i := k) hN hvis hd hcd) hi get_list he a.o set_list ha) ?_
  rintro D σ H ⟨Z, ρ, S, p⟩
  unfold oAuL at p
  split at p
  · rename_i pn ds h
    obtain ⟨b, ob, q, ho, r1, z, _⟩ := S.ow k _ _ h
    refine ⟨_, q, Z, ρ, S, PostS.bind p fun iv di ρ1 Z1 H1 e1 S1 r1 p1 => ?_⟩
    unfold auL2 at p1
    split at p1
    · rename_i p' ds' j h1
      split at p1
      · rename_i h0
        split at p1
        · rename_i xd hx
          obtain ⟨b1, o1, q1, ho1, r1', z1, _⟩ := S1.ow k _ _ h1
          rw [q] at q1
          cases q1
          have qi : Rp X.K Z1 iv (.int j) := r1
          cases qi
          cases o1 with
          | lst us =>
            obtain ⟨w, hw, rw'⟩ := RpAll.get r1' hx
            refine ⟨b, us, j, w, rfl, rfl, SqL.of ho1, h0, hw, Z1, ρ1, S1, PostS.bind p1 fun y d ρ2 Z2 H2 e2 S2 r2 p2 => ?_⟩
            unfold auL1 at p2
            split at p2
            · rename_i p2' ds2 h2
              split at p2
              · rename_i y' hy'
                split at p2
                · rename_i hj
                  refine a.s w y xd d _ Z2 H2 _ S2.zh (.inl (rw'.mono e2)) (.inl r2) hy' fun v Z' H' g rv => ?_
                  have S3 := S2.grow g
                  obtain ⟨b2, o2, q2, ho2, r2', z2, _⟩ := S3.ow k _ _ h2
                  rw [q] at q2
                  cases q2
                  cases o2 with
                  | lst us2 =>
                    have hl := RpAll.length r2'
                    refine ⟨b, us2, j, j.toNat, rfl, rfl, ho2, ?_, p2 σ Z' _ g.z (S3.write h2 q (RpAll.set rv _ r2'))⟩
                    unfold ixN
                    rw [if_pos h0, if_pos (by omega)]
                  | _ => exact r2'.elim
                · exact p2.elim
              · exact p2.elim
            · exact p2.elim
          | _ => exact r1'.elim
        · exact p1.elim
      · exact p1.elim
    · exact p1.elim
  · exact p.elim
end
/-! ### loops -/
/-- J goes over the data ds, wherever Z stands -/
def WalkD (K : PySem.W.Frag) (Z : Hp) (J : It) (ds : List D) : Prop := ∃ (Gd : Hp → Prop) (Y : Nat → Hp → V → Hp → Prop), Walk J ds.length Gd Y ∧ (∀ H, Same Z H → Gd H) ∧
  ∀ i H x H' Z1, i < ds.length → Same Z Z1 → Same Z1 H → Y i H x H' → ∃ d Z', ds[i]? = some d ∧ Grow Z1 H Z' H' ∧ Rp K Z' x d
def ItR (K : PySem.W.Frag) : Rel (List D) It := fun Z ρ σ H J ds => WalkD K Z J ds
def ID (X : Cx) (G : Gm) (B : Wish) (tg iter : Expr) (o : O (List D)) : Prop := PI X tg iter fun σ H R => Run X.K G B (ItR X.K) o σ H R
theorem WalkD.mono {K : PySem.W.Frag} {Z Z' : Hp} {J : It} {ds : List D} (h : WalkD K Z J ds) (e : Same Z Z') : WalkD K Z' J ds := by
  obtain ⟨Gd, Y, w, h1, h2⟩ := h
  exact ⟨Gd, Y, w, fun H q => h1 H (e.trans q), fun i H x H' Z1 hi q => h2 i H x H' Z1 hi (e.trans q)⟩
def forL (g : D → Rho → Option Rho) (b : Os) : List D → Rho → Mo
  | [], ρ => .nx ρ
  | d :: ds, ρ => match g d ρ with
    | none => .st
    | some ρ1 => match b ρ1 with
      | .nx ρ2 => forL g b ds ρ2
      | .ct ρ2 => forL g b ds ρ2
      | .bk ρ2 => .nx ρ2
      | .rt r ρ2 => .rt r ρ2
      | .ex x ρ2 => .ex x ρ2
      | .st => .st
@[simp] theorem forL_nil (g : D → Rho → Option Rho) (b : Os) (ρ : Rho) : forL g b [] ρ = .nx ρ := rfl
theorem forL_cons (g : D → Rho → Option Rho) (b : Os) (d : D) (ds : List D) (ρ : Rho) : forL g b (d :: ds) ρ = match g d ρ with
    | none => .st
    | some ρ1 => match b ρ1 with
      | .nx ρ2 => forL g b ds ρ2
      | .ct ρ2 => forL g b ds ρ2
      | .bk ρ2 => .nx ρ2
      | .rt r ρ2 => .rt r ρ2
      | .ex x ρ2 => .ex x ρ2
      | .st => .st := rfl
def oFor (oi : O (List D)) (g : D → Rho → Option Rho) (b : Os) : Os := fun ρ => (oi ρ).bindS fun ds ρ1 => forL g b ds ρ1
section
variable {X : Cx} {G : Gm} {B : Wish} {tg iter c : Expr} {body : List Stmt} {pos : Pos}
theorem sd_for {T : List Nat} {oi : O (List D)} {g : D → Rho → Option Rho} {b : Os} (hp : PassesOwn (model X.prog X.w) X.A X.env X.xe) (hc : X.calm = true) (hi : ID X G B tg iter oi) (hg : GD X G tg T g) (hb : BD X G B body b)
    (hs : ∀ x, foldedSetIterable iter X.env x = pure x := by intro _; rfl) : SD X G B (.For tg iter body [] pos) (oFor oi g b) :=
  ps_imp (ps_for hp hc hi hg hb hs) fun D σ H w => runS_bind (C := fun (J : It) H1 => ∃ W : Nat → Nat → St → Hp → Prop, (∃ m, W 0 m σ H1) ∧ ∀ i m σ H, W i m σ H →
      (J.stop i H ∧ D.nx σ H) ∨ (J.go i H ∧ ∃ N : St → Hp → Prop, (∀ σ' H', N σ' H' → ∃ m', m' < m ∧ W (i + 1) m' σ' H') ∧ ∀ x H', J.yld i H x H' → gRun X.K G T g x σ H' fun σ2 H2 => RunS X.K G B b { D with nx := N, ct := N, bk := D.nx } σ2 H2)) w
    fun J ds ρ1 Z1 H1 S1 wd p1 => by
    obtain ⟨Gd, Y, wk, h1, h2⟩ := wd
    refine for_it wk (fun i σ' H' => ∃ Z ρ, Sim X.K G Z ρ σ' H' ∧ Same Z1 Z ∧ PostS X.K G B Z (forL g b (ds.drop i) ρ) D) ⟨Z1, ρ1, S1, .refl _, by rw [List.drop_zero]; exact p1⟩ (fun i σ' H' _ ⟨Z, ρ, S, e, _⟩ => h1 H' (e.trans S.zh)) ?_ ?_
    · rintro i x σ' H' H2 hi ⟨Z, ρ, S, e, p⟩ y
      obtain ⟨d, Z', hd, gr, rx⟩ := h2 i H' x H2 Z hi e S.zh y
      have hdr : ds.drop i = d :: ds.drop (i + 1) := by
        rw [List.drop_eq_getElem_cons hi]
        have q := (List.getElem?_eq_some_iff.mp hd).2
        rw [q]
      rw [hdr, forL_cons] at p
      cases hg1 : g d ρ with
      | none => rw [hg1] at p; exact p.elim
      | some ρ2 =>
        rw [hg1] at p
        dsimp only at p
        refine ⟨Z', ρ, d, ρ2, S.grow gr, rx, hg1, fun σ2 Z2 H3 _ _ e2 S2 => ⟨Z2, ρ2, S2, ?_⟩⟩
        have e3 : Same Z Z2 := gr.z.trans e2
        have e4 : Same Z1 Z2 := e.trans e3
        cases hb1 : b ρ2 with
        | st => rw [hb1] at p; exact p.elim
        | nx ρ3 =>
          rw [hb1] at p
          exact fun σ4 Z4 H4 e5 S4 => ⟨Z4, ρ3, S4, e4.trans e5, PostS.mono (m := forL g b (ds.drop (i + 1)) ρ3) p (e3.trans e5)⟩
        | ct ρ3 =>
          rw [hb1] at p
          exact fun σ4 Z4 H4 e5 S4 => ⟨Z4, ρ3, S4, e4.trans e5, PostS.mono (m := forL g b (ds.drop (i + 1)) ρ3) p (e3.trans e5)⟩
        | bk ρ3 =>
          rw [hb1] at p
          exact fun σ4 Z4 H4 e5 S4 => p σ4 Z4 H4 (e3.trans e5) S4
        | rt r ρ3 =>
          rw [hb1] at p
          exact fun v σ4 Z4 H4 e5 S4 => p v σ4 Z4 H4 (e3.trans e5) S4
        | ex x ρ3 =>
          rw [hb1] at p
          exact fun σ4 Z4 H4 e5 S4 => p σ4 Z4 H4 (e3.trans e5) S4
    · rintro σ' H' ⟨Z, ρ, S, e, p⟩
      rw [List.drop_length] at p
      exact p σ' Z H' (.refl _) S
end
/-! while -/
def whl (c : O Bool) (b : Os) : Nat → Rho → Mo
  | 0, _ => .st
  | n + 1, ρ => (c ρ).bindS fun t ρ1 => if t = true then match b ρ1 with
      | .nx ρ2 => whl c b n ρ2
      | .ct ρ2 => whl c b n ρ2
      | .bk ρ2 => .nx ρ2
      | .rt r ρ2 => .rt r ρ2
      | .ex x ρ2 => .ex x ρ2
      | .st => .st
    else .nx ρ1
theorem whl_succ (c : O Bool) (b : Os) (n : Nat) (ρ : Rho) : whl c b (n + 1) ρ = (c ρ).bindS fun t ρ1 => if t = true then match b ρ1 with
      | .nx ρ2 => whl c b n ρ2
      | .ct ρ2 => whl c b n ρ2
      | .bk ρ2 => .nx ρ2
      | .rt r ρ2 => .rt r ρ2
      | .ex x ρ2 => .ex x ρ2
      | .st => .st
    else .nx ρ1 := rfl
theorem whl_more (c : O Bool) (b : Os) : ∀ (n : Nat) (ρ : Rho), whl c b n ρ ≠ .st → whl c b (n + 1) ρ = whl c b n ρ
  | 0, _, h => absurd rfl h
  | n + 1, ρ, h => by
    rw [whl_succ] at h ⊢
    rw [whl_succ]
    cases hc : c ρ with
    | st => rw [hc] at h; exact absurd rfl h
    | ex x ρ1 => rfl
    | ok t ρ1 =>
      rw [hc] at h
      simp only [M.bindS_ok] at h ⊢
      by_cases ht : t = true
      · rw [if_pos ht] at h ⊢
        rw [if_pos ht]
        cases hb : b ρ1 with
        | nx ρ2 => rw [hb] at h; exact whl_more c b n ρ2 h
        | ct ρ2 => rw [hb] at h; exact whl_more c b n ρ2 h
        | st => rfl
        | bk ρ2 => rfl
        | rt r ρ2 => rfl
        | ex x ρ2 => rfl
      · rw [if_neg ht, if_neg ht]
theorem whl_le (c : O Bool) (b : Os) {n m : Nat} {ρ : Rho} (h : whl c b n ρ ≠ .st) (e : n ≤ m) : whl c b m ρ = whl c b n ρ := by
  induction e with
  | refl => rfl
  | step _ ih => rw [whl_more c b _ ρ (by rw [ih]; exact h)]; exact ih
open Classical in
noncomputable def oWhile (c : O Bool) (b : Os) : Os := fun ρ => if h : ∃ n, whl c b n ρ ≠ .st then whl c b (Classical.choose h) ρ else .st
theorem oWhile_eq {c : O Bool} {b : Os} {n : Nat} {ρ : Rho} (h : whl c b n ρ ≠ .st) : oWhile c b ρ = whl c b n ρ := by
  unfold oWhile
  have hx : ∃ n, whl c b n ρ ≠ .st := ⟨n, h⟩
  rw [dif_pos hx]
  have h1 := Classical.choose_spec hx
  rcases Nat.le_total n (Classical.choose hx) with e | e
  · exact whl_le c b h e
  · exact (whl_le c b h1 e).symm
theorem oWhile_is {c : O Bool} {b : Os} (n : Nat) {ρ : Rho} {m : Mo} (h : whl c b n ρ = m) (hm : m ≠ .st) : oWhile c b ρ = m := by
  rw [oWhile_eq (n := n) (by rw [h]; exact hm), h]
section
variable {X : Cx} {G : Gm} {B : Wish} {c : Expr} {body : List Stmt} {pos : Pos}
theorem sd_while {oc : O Bool} {b : Os} (hp : PassesOwn (model X.prog X.w) X.A X.env X.xe) (hc : TD X G B c oc) (hb : BD X G B body b) : SD X G B (.While c body [] pos) (oWhile oc b) := by
  refine ps_imp (ps_while hp hc hb) ?_
  rintro D σ H ⟨Z, ρ, S, p⟩
  obtain ⟨n, p⟩ : ∃ n, PostS X.K G B Z (whl oc b n ρ) D := by
    unfold oWhile at p
    split at p
    · exact ⟨_, p⟩
    · exact p.elim
  refine ⟨fun m σ H => ∃ Z ρ, Sim X.K G Z ρ σ H ∧ PostS X.K G B Z (whl oc b m ρ) D, ⟨n, Z, ρ, S, p⟩, ?_⟩
  rintro m σ1 H1 ⟨Z1, ρ1, S1, p1⟩
  cases m with
  | zero => exact p1.elim
  | succ m =>
    rw [whl_succ] at p1
    refine ⟨Z1, ρ1, S1, PostS.bind p1 fun t t' ρ2 Z2 H2 e2 S2 r2 p2 => ?_⟩
    have r2 : t = t' := r2
    subst r2
    cases t with
    | false => exact p2 σ1 Z2 H2 (.refl _) S2
    | true =>
      refine ⟨fun σ' H' => ∃ Z ρ, Sim X.K G Z ρ σ' H' ∧ PostS X.K G B Z (whl oc b m ρ) D, fun σ' H' q => ⟨m, Nat.lt_succ_self m, q⟩, Z2, ρ2, S2, ?_⟩
      have p3 : PostS X.K G B Z2 (match b ρ2 with
        | .nx ρ2 => whl oc b m ρ2
        | .ct ρ2 => whl oc b m ρ2
        | .bk ρ2 => .nx ρ2
        | .rt r ρ2 => .rt r ρ2
        | .ex x ρ2 => .ex x ρ2
        | .st => .st) D := p2
      cases hb1 : b ρ2 with
      | st => rw [hb1] at p3; exact p3.elim
      | nx ρ3 => rw [hb1] at p3; exact fun σ4 Z4 H4 e5 S4 => ⟨Z4, ρ3, S4, PostS.mono (m := whl oc b m ρ3) p3 e5⟩
      | ct ρ3 => rw [hb1] at p3; exact fun σ4 Z4 H4 e5 S4 => ⟨Z4, ρ3, S4, PostS.mono (m := whl oc b m ρ3) p3 e5⟩
      | bk ρ3 => rw [hb1] at p3; exact p3
      | rt r ρ3 => rw [hb1] at p3; exact p3
      | ex x ρ3 => rw [hb1] at p3; exact p3
end
end Ow
namespace Ow
open PySem L2 RZ
/-! ### what is gone over -/
theorem pi_imp {X : Cx} {tg e : Expr} {t t' : TI} (h : PI X tg e t) (k : ∀ σ H R, t' σ H R → t σ H R) : PI X tg e t' := ⟨fun pins s σ H R I w => h.run pins s σ H R I (k _ _ _ w)⟩
theorem pi_alt {X : Cx} {tg e : Expr} {t t' : TI} (h : PI X tg e t) (h' : PI X tg e t') : PI X tg e (fun σ H R => t σ H R ∨ t' σ H R) := ⟨fun pins s σ H R I w => w.elim (h.run pins s σ H R I) (h'.run pins s σ H R I)⟩
def signs (x : Str) : List D := x.cps.toList.map fun c => .str ⟨#[c]⟩
def itm1 (a : Va) (ρ : Rho) : M (List D) := match a with
  | .pu (.list ds) => .ok ds ρ
  | .pu (.tuple ds) => .ok ds ρ
  | .pu (.str x) => .ok (signs x) ρ
  | .pu (.dict [(.none, .list ds)]) => .ok ds ρ
  | .pu (.dict [(.bool true, .tuple ds)]) => .ok ds ρ
  | .rf i => match ρ[i]? with
    | some (.ow false (.li ds)) => .ok ds (ρ.set i (.pu (.list ds)))
    | _ => .st
  | _ => .st
@[simp] theorem itm1_list (ds : List D) (ρ : Rho) : itm1 (.pu (.list ds)) ρ = .ok ds ρ := rfl
@[simp] theorem itm1_tuple (ds : List D) (ρ : Rho) : itm1 (.pu (.tuple ds)) ρ = .ok ds ρ := rfl
@[simp] theorem itm1_str (x : Str) (ρ : Rho) : itm1 (.pu (.str x)) ρ = .ok (signs x) ρ := rfl
@[simp] theorem itm1_scr (ds : List D) (ρ : Rho) : itm1 (.pu (.dict [(.none, .list ds)])) ρ = .ok ds ρ := rfl
@[simp] theorem itm1_kon (ds : List D) (ρ : Rho) : itm1 (.pu (.dict [(.bool true, .tuple ds)])) ρ = .ok ds ρ := rfl
def oItm (o : O Va) : O (List D) := fun ρ => (o ρ).bind itm1
section
variable {K : PySem.W.Frag}
theorem walkD_list {Z : Hp} {a : Addr} {vs : List V} {ds : List D} (h : SqL K Z a vs) (r : RpAll K Z vs ds) : WalkD K Z (Itl K a) ds :=
  ⟨_, _, by rw [← r.length]; exact walk_list (K := K) (a := a) (xs := vs), fun H e => sqL_mono e h, fun i H x H' Z1 hi e e' y => by
    obtain ⟨rfl, hx⟩ := y
    obtain ⟨d, hd, rd⟩ := r.get' hx
    exact ⟨d, Z1, hd, .refl e', rd.mono e⟩⟩
theorem walkD_tup {Z : Hp} {a : Addr} {vs : List V} {ds : List D} (h : SqT K Z a vs) (r : RpAll K Z vs ds) : WalkD K Z (Itt K a) ds :=
  ⟨_, _, by rw [← r.length]; exact walk_tup (K := K) (a := a) (xs := vs), fun H e => sqT_mono e h, fun i H x H' Z1 hi e e' y => by
    obtain ⟨rfl, hx⟩ := y
    obtain ⟨d, hd, rd⟩ := r.get' hx
    exact ⟨d, Z1, hd, .refl e', rd.mono e⟩⟩
theorem walkD_str {Z : Hp} {x : Str} : WalkD K Z (Its x) (signs x) := by
  refine ⟨fun _ => True, fun i H v H' => H' = H ∧ ∃ c, x.cps[i]? = some c ∧ v = .str ⟨#[c]⟩, ?_, fun _ _ => trivial, fun i H v H' Z1 hi e e' y => ?_⟩
  · have hl : (signs x).length = x.cps.size := by unfold signs; rw [List.length_map, Array.length_toList]
    rw [hl]
    exact walk_str
  · obtain ⟨rfl, c, hc, rfl⟩ := y
    refine ⟨.str ⟨#[c]⟩, Z1, ?_, .refl e', .str _⟩
    unfold signs
    rw [List.getElem?_map, Array.getElem?_toList, hc]
    rfl
def rangeD (lo : Int) (n : Nat) : List D := (List.range n).map fun i => .int (lo + (i : Nat))
theorem walkD_range {Z : Hp} {lo : Int} {n : Nat} : WalkD K Z (Itr lo n) (rangeD lo n) := by
  refine ⟨fun _ => True, YFn fun i => .int (lo + i), ?_, fun _ _ => trivial, fun i H v H' Z1 hi e e' y => ?_⟩
  · have hl : (rangeD lo n).length = n := by unfold rangeD; rw [List.length_map, List.length_range]
    rw [hl]
    exact walk_range
  · obtain ⟨rfl, rfl⟩ := y
    refine ⟨.int (lo + i), Z1, ?_, .refl e', .int _⟩
    unfold rangeD at hi ⊢
    rw [List.length_map, List.length_range] at hi
    rw [List.getElem?_map, List.getElem?_range hi]
    rfl
def rangeC (lo c : Int) (n : Nat) : List D := (List.range n).map fun i => .int (lo + (i : Nat) * c)
theorem walkD_rangeC {Z : Hp} {lo c : Int} {n : Nat} : WalkD K Z (Itc lo c n) (rangeC lo c n) := by
  refine ⟨fun _ => True, YFn fun i => .int (lo + (i : Nat) * c), ?_, fun _ _ => trivial, fun i H v H' Z1 hi e e' y => ?_⟩
  · have hl : (rangeC lo c n).length = n := by unfold rangeC; rw [List.length_map, List.length_range]
    rw [hl]
    exact walk_rangeC
  · obtain ⟨rfl, rfl⟩ := y
    refine ⟨.int (lo + i * c), Z1, ?_, .refl e', .int _⟩
    unfold rangeC at hi ⊢
    rw [List.length_map, List.length_range] at hi
    rw [List.getElem?_map, List.getElem?_range hi]
    rfl
/-- pairs made on the way -/
def pairsD : List D → List D → List D
  | a :: as, b :: bs => .tuple [a, b] :: pairsD as bs
  | _, _ => []
theorem pairsD_get : ∀ {as bs : List D} {i : Nat} {a b : D}, as[i]? = some a → bs[i]? = some b → (pairsD as bs)[i]? = some (.tuple [a, b])
  | [], _, _, _, _, h, _ => by simp at h
  | _ :: _, [], _, _, _, _, h => by simp at h
  | a :: as, b :: bs, 0, _, _, h, h' => by simp at h h'; subst h; subst h'; rfl
  | _ :: as, _ :: bs, i + 1, _, _, h, h' => by
    show (pairsD as bs)[i]? = _
    exact pairsD_get (by simpa using h) (by simpa using h')
theorem pairsD_length : ∀ (as bs : List D), (pairsD as bs).length = min as.length bs.length
  | [], _ => by simp [pairsD]
  | _ :: _, [] => by simp [pairsD]
  | _ :: as, _ :: bs => by simp [pairsD, pairsD_length as bs]
def enumD (n : Nat) : List D → List D
  | [] => []
  | d :: ds => .tuple [.int (n : Nat), d] :: enumD (n + 1) ds
theorem enumD_get : ∀ {ds : List D} {n i : Nat} {d : D}, ds[i]? = some d → (enumD n ds)[i]? = some (.tuple [.int ((n + i : Nat) : Int), d])
  | [], _, _, _, h => by simp at h
  | d :: ds, n, 0, _, h => by simp at h; subst h; rfl
  | _ :: ds, n, i + 1, _, h => by
    show (enumD (n + 1) ds)[i]? = _
    rw [enumD_get (by simpa using h)]
    have e : n + 1 + i = n + (i + 1) := by omega
    rw [e]
theorem enumD_length : ∀ (n : Nat) (ds : List D), (enumD n ds).length = ds.length
  | _, [] => rfl
  | n, _ :: ds => by simp [enumD, enumD_length (n + 1) ds]
theorem pair_still {Z H : Hp} (e : Same Z H) {T : Addr} {x y : V} {a b : D} (h : H T = none) (rx : Rp K Z x a) (ry : Rp K Z y b) : ∃ Z', Grow Z H Z' (upd H T (.tup [x, y])) ∧ Rp K Z' (.ref T) (.tuple [a, b]) := by
  have g := Grow.still e h (.tup [x, y])
  exact ⟨_, g, .tup upd_same (.cons (rx.mono g.z) (.cons (ry.mono g.z) .nil))⟩
theorem walkD_enum {Z : Hp} {a : Addr} {vs : List V} {ds : List D} (h : SqL K Z a vs) (r : RpAll K Z vs ds) : WalkD K Z (Ite K a) (enumD 0 ds) :=
  ⟨_, _, by rw [enumD_length, ← r.length]; exact walk_enum (K := K) (a := a) (xs := vs), fun H e => sqL_mono e h, fun i H x H' Z1 hi e e' y => by
    obtain ⟨T, u, v, rfl, hT, rfl, h1, h2⟩ := y
    cases h1
    obtain ⟨d, hd, rd⟩ := r.get' h2
    obtain ⟨Z', g, r'⟩ := pair_still e' hT (.int (i : Nat)) (rd.mono e)
    refine ⟨_, Z', enumD_get hd, g, ?_⟩
    rw [Nat.zero_add]
    exact r'⟩
theorem walkD_zip {Z : Hp} {a b : Addr} {vs ws : List V} {ds es : List D} (h : SqL K Z a vs) (r : RpAll K Z vs ds) (h' : SqL K Z b ws) (r' : RpAll K Z ws es) : WalkD K Z (Itz K a b) (pairsD ds es) :=
  ⟨_, _, walk_zip (K := K) (a := a) (b := b) (xs := vs) (ys := ws) (by rw [pairsD_length, r.length, r'.length]), fun H e => ⟨sqL_mono e h, sqL_mono e h'⟩, fun i H x H' Z1 hi e e' y => by
    obtain ⟨T, u, v, rfl, hT, rfl, h1, h2⟩ := y
    obtain ⟨d, hd, rd⟩ := r.get' h1
    obtain ⟨d', hd', rd'⟩ := r'.get' h2
    obtain ⟨Z', g, q⟩ := pair_still e' hT (rd.mono e) (rd'.mono e)
    exact ⟨_, Z', pairsD_get hd hd', g, q⟩⟩
theorem walk_zipT {a b : Addr} {xs ys : List V} {n : Nat} (hn : n = min xs.length ys.length) : Walk (ItzT K a b) n (fun H => SqT K H a xs ∧ SqT K H b ys) (YPair (fun i => xs[i]?) (fun i => ys[i]?)) := by
  subst hn
  refine ⟨fun i H hi ⟨h1, h2⟩ => ⟨xs, ys, xs[i]'(by omega), ys[i]'(by omega), h1, h2, by simp, by simp⟩, fun H ⟨h1, h2⟩ => ⟨xs, ys, h1, h2, by omega⟩, fun i H x H' hi ⟨h1, h2⟩ y => ?_⟩
  obtain ⟨T, u, v, e1, e2, e3, e4, e5⟩ := y
  exact ⟨T, u, v, e1, e2, e3, e4 xs h1, e5 ys h2⟩
theorem walkD_zipT {Z : Hp} {a b : Addr} {vs ws : List V} {ds es : List D} (h : SqT K Z a vs) (r : RpAll K Z vs ds) (h' : SqT K Z b ws) (r' : RpAll K Z ws es) : WalkD K Z (ItzT K a b) (pairsD ds es) :=
  ⟨_, _, walk_zipT (K := K) (a := a) (b := b) (xs := vs) (ys := ws) (by rw [pairsD_length, r.length, r'.length]), fun H e => ⟨sqT_mono e h, sqT_mono e h'⟩, fun i H x H' Z1 hi e e' y => by
    obtain ⟨T, u, v, rfl, hT, rfl, h1, h2⟩ := y
    obtain ⟨d, hd, rd⟩ := r.get' h1
    obtain ⟨d', hd', rd'⟩ := r'.get' h2
    obtain ⟨Z', g, q⟩ := pair_still e' hT (rd.mono e) (rd'.mono e)
    exact ⟨_, Z', pairsD_get hd hd', g, q⟩⟩
end
section
variable {X : Cx} {G : Gm} {B : Wish} {tg e e2 : Expr} {p pos tpos : Pos} {elts : List Expr} {kk : Nat}
/-- a sequence: a list, a tuple, a text -/
theorem id_seq {o : O Va} (h : ED X G B e o) : ID X G B tg e (oItm o) := by
  refine pi_imp (pi_alt (pi_list h) (pi_alt (pi_tup h) (pi_str h))) ?_
  rintro σ H R ⟨Z, ρ, S, p⟩
  unfold oItm at p
  cases ha : o ρ with
  | st => rw [ha] at p; exact p.elim
  | ex x ρ1 =>
    rw [ha] at p
    refine .inl ⟨Z, ρ, S, ?_⟩
    rw [ha]
    exact p
  | ok a ρ1 =>
    rw [ha] at p
    replace p : Post X.K G B (ItR X.K) σ Z (itm1 a ρ1) R := p
    unfold itm1 at p
    split at p
    · rename_i ds
      refine .inl ⟨Z, ρ, S, ?_⟩
      rw [ha]
      intro x Z1 H1 e1 S1 r1
      replace r1 : Rp X.K Z1 x (.list ds) := r1
      cases r1 with
      | lst h1 h2 => exact ⟨_, rfl, ⟨_, SqL.of (S1.zh _ _ h1)⟩, p _ Z1 H1 e1 S1 (walkD_list (SqL.of h1) h2)⟩
    · rename_i ds
      refine .inr (.inl ⟨Z, ρ, S, ?_⟩)
      rw [ha]
      intro x Z1 H1 e1 S1 r1
      replace r1 : Rp X.K Z1 x (.tuple ds) := r1
      cases r1 with
      | tup h1 h2 => exact ⟨_, rfl, ⟨_, SqT.of (S1.zh _ _ h1)⟩, p _ Z1 H1 e1 S1 (walkD_tup (SqT.of h1) h2)⟩
    · rename_i y
      refine .inr (.inr ⟨Z, ρ, S, ?_⟩)
      rw [ha]
      intro x Z1 H1 e1 S1 r1
      replace r1 : Rp X.K Z1 x (.str y) := r1
      cases r1
      exact ⟨y, rfl, p _ Z1 H1 e1 S1 walkD_str⟩
    · rename_i ds
      refine .inl ⟨Z, ρ, S, ?_⟩
      rw [ha]
      intro x Z1 H1 e1 S1 r1
      replace r1 : Rp X.K Z1 x (scr ds) := r1
      cases r1 with
      | frz h1 h2 => exact ⟨_, rfl, ⟨_, sqL_mono S1.zh h1⟩, p _ Z1 H1 e1 S1 (walkD_list h1 h2)⟩
    · rename_i ds
      refine .inr (.inl ⟨Z, ρ, S, ?_⟩)
      rw [ha]
      intro x Z1 H1 e1 S1 r1
      replace r1 : Rp X.K Z1 x (kon ds) := r1
      cases r1 with
      | kon h1 h2 => exact ⟨_, rfl, ⟨_, sqT_mono S1.zh h1⟩, p _ Z1 H1 e1 S1 (walkD_tup h1 h2)⟩
    · rename_i i
      split at p
      · rename_i ds hr
        refine .inl ⟨Z, ρ, S, ?_⟩
        rw [ha]
        intro x Z1 H1 e1 S1 r1
        replace r1 : σ[i]? = some (some x) := r1
        obtain ⟨b, vs, q, hb, rb, z, S2⟩ := S1.freezeSlot hr
        rw [q] at r1
        cases r1
        have e2 := same_upd z (.lst vs)
        exact ⟨b, rfl, ⟨vs, SqL.of hb⟩, p _ _ H1 (e1.trans e2) S2 (walkD_list (SqL.of upd_same) (rb.mono e2))⟩
      · exact p.elim
    · exact p.elim
def rg1 (ds : List D) (ρ : Rho) : M (List D) := match ds with
  | [.int j] => if -4611686018427387904 ≤ j ∧ j < 4611686018427387904 then .ok (rangeD 0 j.toNat) ρ else .st
  | _ => .st
def rg2 (ds : List D) (ρ : Rho) : M (List D) := match ds with
  | [.int i, .int j] => if (-4611686018427387904 ≤ i ∧ i < 4611686018427387904) ∧ -4611686018427387904 ≤ j ∧ j < 4611686018427387904 then .ok (rangeD i (j - i).toNat) ρ else .st
  | _ => .st
/-- a range with a step -/
def rgN (i j c : Int) : Nat := (Builtin.Range.rangeSize i j c).toNat
def rg3 (ds : List D) (ρ : Rho) : M (List D) := match ds with
  | [.int i, .int j, .int c] => if c ≠ 0 ∧ c.natAbs < 1073741824 ∧ Builtin.Range.small i j c = true ∧ 0 ≤ Builtin.Range.rangeSize i j c then .ok (rangeC i c (rgN i j c)) ρ else .st
  | _ => .st
def oRange (o : O (List D)) : O (List D) := fun ρ => (o ρ).bind rg1
def oRange2 (o : O (List D)) : O (List D) := fun ρ => (o ρ).bind rg2
def oRange3 (o : O (List D)) : O (List D) := fun ρ => (o ρ).bind rg3
theorem id_range1 {o : O (List D)} (hg : Gl X "range") (hm : X.mg "range" = none) (ha : QD X G B [e] o) (hs : starEach [e] X.env = [(false, eval e X.env)] := by rfl) : ID X G B tg (.Call (.Name "range" p) [e] [] pos) (oRange o) :=
  pi_imp (pi_range1 hg hm ha hs) fun σ H R w => run_imp (C := fun (vs : List V) H1 => ∃ j : Int, vs = [.int j] ∧ -(2 ^ 62) ≤ j ∧ j < 2 ^ 62 ∧ R (Itr 0 j.toNat) H1) w fun vs ds ρ1 Z1 H1 S1 r1 p1 => by
    unfold rg1 at p1
    split at p1
    · split at p1
      · rename_i j hj
        replace r1 : RpAll X.K Z1 vs [.int j] := r1
        cases r1 with
        | cons h1 h2 =>
          cases h1
          cases h2
          exact ⟨j, rfl, by omega, by omega, p1 _ Z1 H1 (.refl _) S1 walkD_range⟩
      · exact p1.elim
    · exact p1.elim
theorem id_range2 {o : O (List D)} (hg : Gl X "range") (hm : X.mg "range" = none) (ha : QD X G B [e, e2] o) (hs : starEach [e, e2] X.env = [(false, eval e X.env), (false, eval e2 X.env)] := by rfl) (hs2 : starEach [e2] X.env = [(false, eval e2 X.env)] := by rfl) :
    ID X G B tg (.Call (.Name "range" p) [e, e2] [] pos) (oRange2 o) :=
  pi_imp (pi_range2 hg hm ha hs hs2) fun σ H R w => run_imp (C := fun (vs : List V) H1 => ∃ i j : Int, vs = [.int i, .int j] ∧ (-(2 ^ 62) ≤ i ∧ i < 2 ^ 62 ∧ -(2 ^ 62) ≤ j ∧ j < 2 ^ 62) ∧ R (Itr i (j - i).toNat) H1) w fun vs ds ρ1 Z1 H1 S1 r1 p1 => by
    unfold rg2 at p1
    split at p1
    · split at p1
      · rename_i i j hj
        replace r1 : RpAll X.K Z1 vs [.int i, .int j] := r1
        cases r1 with
        | cons h1 h2 =>
          cases h1
          cases h2 with
          | cons h2 h3 =>
            cases h2
            cases h3
            exact ⟨i, j, rfl, by omega, p1 _ Z1 H1 (.refl _) S1 walkD_range⟩
      · exact p1.elim
    · exact p1.elim
theorem id_range3 {e3 : Expr} {o : O (List D)} (hg : Gl X "range") (hm : X.mg "range" = none) (ha : QD X G B [e, e2, e3] o) (hs : starEach [e, e2, e3] X.env = (false, eval e X.env) :: starEach [e2, e3] X.env := by rfl) (hpl : (backTo pos (starEach [e2, e3] X.env)).any (·.1) = false := by rfl) :
    ID X G B tg (.Call (.Name "range" p) [e, e2, e3] [] pos) (oRange3 o) :=
  pi_imp (pi_range3 hg hm ha hs hpl) fun σ H R w => run_imp (C := fun (vs : List V) H1 => ∃ (i j c : Int) (n : Nat), vs = [.int i, .int j, .int c] ∧ RgC i j c n ∧ R (Itc i c n) H1) w fun vs ds ρ1 Z1 H1 S1 r1 p1 => by
    unfold rg3 at p1
    split at p1
    · split at p1
      · rename_i i j c hj
        replace r1 : RpAll X.K Z1 vs [.int i, .int j, .int c] := r1
        cases r1 with
        | cons h1 h2 =>
          cases h1
          cases h2 with
          | cons h2 h3 =>
            cases h2
            cases h3 with
            | cons h3 h4 =>
              cases h3
              cases h4
              exact ⟨i, j, c, rgN i j c, rfl, ⟨hj.1, hj.2.1, hj.2.2.1, by unfold rgN; omega⟩, p1 _ Z1 H1 (.refl _) S1 walkD_rangeC⟩
      · exact p1.elim
    · exact p1.elim
def en1 (d : D) (ρ : Rho) : M (List D) := match d with
  | .list ds => .ok (enumD 0 ds) ρ
  | _ => .st
def oEnumL (o : O D) : O (List D) := fun ρ => (o ρ).bind en1
def zp1 (ds : List D) (ρ : Rho) : M (List D) := match ds with
  | [.list xs, .list ys] => .ok (pairsD xs ys) ρ
  | [.tuple xs, .tuple ys] => .ok (pairsD xs ys) ρ
  | _ => .st
def oZip (o : O (List D)) : O (List D) := fun ρ => (o ρ).bind zp1
theorem id_zip {o : O (List D)} (hg : Gl X "zip") (hm : X.mg "zip" = none) (ha : QD X G B [e, e2] o)
    (hs : starEach [e, e2] X.env = (false, eval e X.env) :: starEach [e2] X.env := by rfl) (hpl : (backTo pos (starEach [e2] X.env)).any (·.1) = false := by rfl) :
    ID X G B (.Tuple elts kk tpos) (.Call (.Name "zip" p) [e, e2] [] pos) (oZip o) :=
  pi_imp (pi_zipA hg hm ha hs hpl) fun σ H R w => run_imp (C := fun (vs : List V) H1 => ∃ a b xs ys, vs = [.ref a, .ref b] ∧ ((SqL X.K H1 a xs ∧ SqL X.K H1 b ys ∧ R (Itz X.K a b) H1) ∨ (SqT X.K H1 a xs ∧ SqT X.K H1 b ys ∧ R (ItzT X.K a b) H1))) w fun vs ds ρ1 Z1 H1 S1 r1 p1 => by
    unfold zp1 at p1
    split at p1
    · rename_i xs ys
      replace r1 : RpAll X.K Z1 vs [.list xs, .list ys] := r1
      cases r1 with
      | cons h1 h2 =>
        cases h2 with
        | cons h2 h3 =>
          cases h3
          cases h1 with
          | lst a1 a2 =>
            cases h2 with
            | lst b1 b2 => exact ⟨_, _, _, _, rfl, .inl ⟨SqL.of (S1.zh _ _ a1), SqL.of (S1.zh _ _ b1), p1 _ Z1 H1 (.refl _) S1 (walkD_zip (SqL.of a1) a2 (SqL.of b1) b2)⟩⟩
    · rename_i xs ys
      replace r1 : RpAll X.K Z1 vs [.tuple xs, .tuple ys] := r1
      cases r1 with
      | cons h1 h2 =>
        cases h2 with
        | cons h2 h3 =>
          cases h3
          cases h1 with
          | tup a1 a2 =>
            cases h2 with
            | tup b1 b2 => exact ⟨_, _, _, _, rfl, .inr ⟨SqT.of (S1.zh _ _ a1), SqT.of (S1.zh _ _ b1), p1 _ Z1 H1 (.refl _) S1 (walkD_zipT (SqT.of a1) a2 (SqT.of b1) b2)⟩⟩
    · exact p1.elim
theorem id_enumL {o : O D} (hg : Gl X "enumerate") (hm : X.mg "enumerate" = none) (ha : PD X G B e o) (hs : starEach [e] X.env = [(false, eval e X.env)] := by rfl) (hs' : starEach [e] X.env = (false, eval e X.env) :: starEach [] X.env := by rfl) :
    ID X G B (.Tuple elts kk tpos) (.Call (.Name "enumerate" p) [e] [] pos) (oEnumL o) :=
  pi_imp (pi_enum hg hm (pa_cons ha pa_nil hs') hs) fun σ H R w => run_imp (C := fun (v : V) H1 => ∃ a xs, [v] = [.ref a] ∧ SqL X.K H1 a xs ∧ R (Ite X.K a) H1) w fun v d ρ1 Z1 H1 S1 r1 p1 => by
    unfold en1 at p1
    split at p1
    · rename_i ds
      replace r1 : Rp X.K Z1 v (.list ds) := r1
      cases r1 with
      | lst a1 a2 => exact ⟨_, _, rfl, SqL.of (S1.zh _ _ a1), p1 _ Z1 H1 (.refl _) S1 (walkD_enum (SqL.of a1) a2)⟩
    · exact p1.elim
end
end Ow
namespace Ow
open PySem L2
/-! ### list comprehensions -/
def noB : Wish := fun _ _ _ _ _ => False
def wipeR (ρ : Rho) : List Nat → Rho
  | [] => ρ
  | v :: vs => (wipeR ρ vs).set v .no
def restR (ρ0 ρ : Rho) : List Nat → Rho
  | [] => ρ
  | v :: vs => (restR ρ0 ρ vs).set v (ρ0.getD v .no)
def loose (s : Option Sl) : Bool := match s with
  | some .no => true
  | some (.pu _) => true
  | _ => false
def okW (ρ : Rho) (vs : List Nat) : Bool := vs.all fun v => loose ρ[v]?
def lcL (vs : List Nat) (g : D → Rho → Option Rho) (ot : O Bool) (oe : O D) : List D → Rho → M (List D)
  | [], ρ => .ok [] ρ
  | d :: ds, ρ => match g d ρ with
    | none => .st
    | some ρ1 => match ot ρ1 with
      | .ok true ρ2 => match oe ρ2 with
        | .ok y ρ3 => (lcL vs g ot oe ds (wipeR ρ3 vs)).bind fun ys ρ4 => .ok (y :: ys) ρ4
        | _ => .st
      | .ok false ρ2 => lcL vs g ot oe ds (wipeR ρ2 vs)
      | _ => .st
@[simp] theorem lcL_nil (vs : List Nat) (g : D → Rho → Option Rho) (ot : O Bool) (oe : O D) (ρ : Rho) : lcL vs g ot oe [] ρ = .ok [] ρ := rfl
theorem lcL_cons (vs : List Nat) (g : D → Rho → Option Rho) (ot : O Bool) (oe : O D) (d : D) (ds : List D) (ρ : Rho) : lcL vs g ot oe (d :: ds) ρ = match g d ρ with
    | none => .st
    | some ρ1 => match ot ρ1 with
      | .ok true ρ2 => match oe ρ2 with
        | .ok y ρ3 => (lcL vs g ot oe ds (wipeR ρ3 vs)).bind fun ys ρ4 => .ok (y :: ys) ρ4
        | _ => .st
      | .ok false ρ2 => lcL vs g ot oe ds (wipeR ρ2 vs)
      | _ => .st := rfl
def lcE (vs : List Nat) (ρ1 : Rho) (m : M (List D)) : M Rs := match m with
  | .ok ys ρ2 => .ok (.nw (.li ys)) (restR ρ1 ρ2 vs)
  | _ => .st
def lc1 (vs : List Nat) (g : D → Rho → Option Rho) (ot : O Bool) (oe : O D) (ds : List D) (ρ1 : Rho) : M Rs :=
  if okW ρ1 vs = true ∧ ds.length ≤ 16000000 then lcE vs ρ1 (lcL vs g ot oe ds (wipeR ρ1 vs)) else .st
def oLc (vs : List Nat) (oi : O (List D)) (g : D → Rho → Option Rho) (ot : O Bool) (oe : O D) : O Rs := fun ρ => (oi ρ).bind (lc1 vs g ot oe)
def oYes : O Bool := fun ρ => .ok true ρ
@[simp] theorem oYes_eq (ρ : Rho) : oYes ρ = .ok true ρ := rfl

theorem wipeR_length (ρ : Rho) : ∀ vs : List Nat, (wipeR ρ vs).length = ρ.length
  | [] => rfl
  | v :: vs => by unfold wipeR; rw [List.length_set, wipeR_length ρ vs]
theorem restR_length (ρ0 ρ : Rho) : ∀ vs : List Nat, (restR ρ0 ρ vs).length = ρ.length
  | [] => rfl
  | v :: vs => by unfold restR; rw [List.length_set, restR_length ρ0 ρ vs]
theorem wipeR_get (ρ : Rho) (j : Nat) : ∀ vs : List Nat, (wipeR ρ vs)[j]? = if j ∈ vs then (if j < ρ.length then some .no else none) else ρ[j]?
  | [] => by simp [wipeR]
  | v :: vs => by
    unfold wipeR
    by_cases h : v = j
    · subst h
      rw [List.getElem?_set]
      simp [wipeR_length]
    · rw [List.getElem?_set_ne h, wipeR_get ρ j vs]
      have q : (j ∈ v :: vs) ↔ (j ∈ vs) := by simp [List.mem_cons, Ne.symm h]
      by_cases hm : j ∈ vs
      · rw [if_pos hm, if_pos (q.mpr hm)]
      · rw [if_neg hm, if_neg (fun e => hm (q.mp e))]
theorem wipe_get (σ : St) (j : Nat) : ∀ vs : List Nat, (wipe σ vs)[j]? = if j ∈ vs then (if j < σ.length then some none else none) else σ[j]?
  | [] => by simp [wipe]
  | v :: vs => by
    unfold wipe
    by_cases h : v = j
    · subst h
      rw [List.getElem?_set]
      simp [wipe_length]
    · rw [List.getElem?_set_ne h, wipe_get σ j vs]
      have q : (j ∈ v :: vs) ↔ (j ∈ vs) := by simp [List.mem_cons, Ne.symm h]
      by_cases hm : j ∈ vs
      · rw [if_pos hm, if_pos (q.mpr hm)]
      · rw [if_neg hm, if_neg (fun e => hm (q.mp e))]
theorem restR_get (ρ0 ρ : Rho) (j : Nat) (hl : ρ0.length = ρ.length) : ∀ vs : List Nat, (restR ρ0 ρ vs)[j]? = if j ∈ vs then ρ0[j]? else ρ[j]?
  | [] => by simp [restR]
  | v :: vs => by
    unfold restR
    by_cases h : v = j
    · subst h
      rw [List.getElem?_set]
      simp only [if_true, restR_length, List.mem_cons, true_or]
      by_cases hv : v < ρ.length
      · rw [if_pos hv, List.getD_eq_getElem?_getD, List.getElem?_eq_getElem (by omega)]
        rfl
      · rw [if_neg hv, List.getElem?_eq_none (by omega)]
    · rw [List.getElem?_set_ne h, restR_get ρ0 ρ j hl vs]
      have q : (j ∈ v :: vs) ↔ (j ∈ vs) := by simp [List.mem_cons, Ne.symm h]
      by_cases hm : j ∈ vs
      · rw [if_pos hm, if_pos (q.mpr hm)]
      · rw [if_neg hm, if_neg (fun e => hm (q.mp e))]
theorem wipe_same {σ σ' : St} {vs : List Nat} (hl : σ'.length = σ.length) (h : ∀ j : Nat, j ∉ vs → σ'[j]? = σ[j]?) : wipe σ' vs = wipe σ vs := by
  refine List.ext_getElem? fun j => ?_
  rw [wipe_get, wipe_get, hl]
  by_cases hj : j ∈ vs
  · rw [if_pos hj, if_pos hj]
  · rw [if_neg hj, if_neg hj, h j hj]
theorem wipe_wipe (σ : St) (vs : List Nat) : wipe (wipe σ vs) vs = wipe σ vs := by
  refine List.ext_getElem? fun j => ?_
  rw [wipe_get, wipe_get, wipe_length]
  by_cases hj : j ∈ vs
  · rw [if_pos hj, if_pos hj]
  · rw [if_neg hj, if_neg hj]
/-- a thing of ours that stands beside the slots -/
def Gm.ghost (G : Gm) (a : Addr) (o : HO) : Gm := { G with H0 := upd G.H0 a o }
section
variable {K : PySem.W.Frag} {G : Gm} {Z : Hp} {ρ ρ' : Rho} {σ : St} {H : Hp} {a : Addr} {o : HO} {vs : List Nat}
theorem Sim.toGhost (S : Sim K G Z ρ σ H) (ho : H a = some o) (z : Z a = none) (n : ∀ (i : Nat) p c, ρ[i]? = some (Sl.ow p c) → σ[i]? ≠ some (some (V.ref a))) : Sim K (G.ghost a o) Z ρ σ H where
  zz := S.zz
  zh := S.zh
  fr := fun b u e l => by
    by_cases hb : b = a
    · subst hb
      have e' : upd G.H0 b o b = some u := e
      rw [upd_same] at e'
      cases e'
      exact ho
    · have e' : upd G.H0 a o b = some u := e
      rw [upd_ne hb] at e'
      exact S.fr b u e' l
  nw := fun b u e => by
    rcases S.nw b u e with q | q
    · exact .inl q
    · refine .inr ?_
      show upd G.H0 a o b = none
      have hb : b ≠ a := fun e' => by subst e'; rw [z] at e; cases e
      rw [upd_ne hb]
      exact q
  pu := S.pu
  ow := fun i p c e => by
    obtain ⟨b, u, q, hu, r, zb, l, nb⟩ := S.ow i p c e
    refine ⟨b, u, q, hu, r, zb, l, fun hp => ?_⟩
    show upd G.H0 a o b = none
    have hb : b ≠ a := fun e' => by subst e'; exact n i p c e q
    rw [upd_ne hb]
    exact nb hp
  ne := S.ne
  pin := S.pin
  len := S.len
theorem Sim.notLent (S : Sim K G Z ρ σ H) (n : ∀ (i : Nat) p c, ρ[i]? = some (Sl.ow p c) → σ[i]? ≠ some (some (V.ref a))) : ¬ G.lent a := fun l => by
  obtain ⟨i, c, _, q, hc, _⟩ := S.lentIn l
  exact n i _ c hc q
theorem Sim.ofGhost (S : Sim K (G.ghost a o) Z ρ σ H) (h0 : G.H0 a = none) (hz : G.Z0 a = none) (hl : ¬ G.lent a) :
    Sim K G Z ρ σ H ∧ H a = some o ∧ Z a = none ∧ ∀ (i : Nat) p c, ρ[i]? = some (Sl.ow p c) → σ[i]? ≠ some (some (V.ref a)) := by
  have up : ∀ b, (G.ghost a o).H0 b = none → G.H0 b = none := fun b e => by
    by_cases hb : b = a
    · subst hb; exact h0
    · have e' : upd G.H0 a o b = none := e
      rw [upd_ne hb] at e'
      exact e'
  have nself : (G.ghost a o).H0 a ≠ none := fun e => by
    have e' : upd G.H0 a o a = none := e
    rw [upd_same] at e'
    cases e'
  refine ⟨⟨S.zz, S.zh, fun b u e l => S.fr b u ?_ l, fun b u e => (S.nw b u e).imp (fun q => q) (up b), S.pu, fun i p c e => ?_, S.ne, S.pin, S.len⟩, S.fr a o ?_ hl, ?_, fun i p c e q => ?_⟩
  · show upd G.H0 a o b = some u
    rw [upd_ne (ne_of_none e h0)]
    exact e
  · obtain ⟨b, u, q, hu, r, zb, l, nb⟩ := S.ow i p c e
    exact ⟨b, u, q, hu, r, zb, l, fun hp => up b (nb hp)⟩
  · show upd G.H0 a o a = some o
    exact upd_same
  · cases e : Z a with
    | none => rfl
    | some u =>
      rcases S.nw a u e with q | q
      · have q' : G.Z0 a = some u := q
        rw [hz] at q'; cases q'
      · exact absurd q nself
  · obtain ⟨b, u, q', hu, r, zb, l, nb⟩ := S.ow i p c e
    rw [q] at q'
    cases q'
    cases p with
    | true => exact hl (l rfl)
    | false => exact nself (nb rfl)
theorem Sim.wipes (S : Sim K G Z ρ σ H) (hv : ∀ v ∈ vs, ∀ x, (v, x) ∉ G.pins) : Sim K G Z (wipeR ρ vs) (wipe σ vs) H := by
  have g : ∀ (j : Nat) s, (wipeR ρ vs)[j]? = some s → s ≠ .no → j ∉ vs ∧ ρ[j]? = some s := fun j s e n => by
    rw [wipeR_get] at e
    by_cases hj : j ∈ vs
    · rw [if_pos hj] at e
      split at e
      · cases e; exact absurd rfl n
      · cases e
    · rw [if_neg hj] at e; exact ⟨hj, e⟩
  have gs : ∀ j : Nat, j ∉ vs → (wipe σ vs)[j]? = σ[j]? := fun j hj => by rw [wipe_get, if_neg hj]
  refine ⟨S.zz, S.zh, S.fr, S.nw, fun j d e => ?_, fun j p c e => ?_, fun j k p q c d n e1 e2 => ?_, fun j x hj => ?_, by rw [wipeR_length, wipe_length]; exact S.len⟩
  · obtain ⟨hj, e⟩ := g j _ e (by simp); rw [gs j hj]; exact S.pu j d e
  · obtain ⟨hj, e⟩ := g j _ e (by simp); rw [gs j hj]; exact S.ow j p c e
  · obtain ⟨hj, e1⟩ := g j _ e1 (by simp)
    obtain ⟨hk, e2⟩ := g k _ e2 (by simp)
    rw [gs j hj, gs k hk]
    exact S.ne j k p q c d n e1 e2
  · have nv : j ∉ vs := fun m => hv j m x hj
    rw [gs j nv, wipeR_get, if_neg nv]
    exact S.pin j x hj
theorem Sim.rests {Z1 H1 : Hp} {ρ1 : Rho} (S1 : Sim K G Z1 ρ1 σ H1) (S : Sim K G Z ρ (wipe σ vs) H) (e : Same Z1 Z) (hw : okW ρ1 vs = true) : Sim K G Z (restR ρ1 ρ vs) σ H := by
  have hl : ρ1.length = ρ.length := by rw [S1.len, S.len, wipe_length]
  have gs : ∀ j : Nat, j ∉ vs → (wipe σ vs)[j]? = σ[j]? := fun j hj => by rw [wipe_get, if_neg hj]
  have ok : ∀ v ∈ vs, loose ρ1[v]? = true := fun v hv => List.all_eq_true.mp hw v hv
  have g : ∀ (j : Nat) p c, (restR ρ1 ρ vs)[j]? = some (Sl.ow p c) → j ∉ vs ∧ ρ[j]? = some (Sl.ow p c) := fun j p c e => by
    rw [restR_get ρ1 ρ j hl] at e
    by_cases hj : j ∈ vs
    · rw [if_pos hj] at e
      have q := ok j hj
      rw [e] at q
      cases q
    · rw [if_neg hj] at e; exact ⟨hj, e⟩
  refine ⟨S.zz, S.zh, S.fr, S.nw, fun j d q => ?_, fun j p c q => ?_, fun j k p q c d n e1 e2 => ?_, fun j x hj => ?_, by rw [restR_length, ← hl]; exact S1.len⟩
  · rw [restR_get ρ1 ρ j hl] at q
    by_cases hj : j ∈ vs
    · rw [if_pos hj] at q
      obtain ⟨v, h1, h2⟩ := S1.pu j d q
      exact ⟨v, h1, h2.mono e⟩
    · rw [if_neg hj] at q
      rw [← gs j hj]
      exact S.pu j d q
  · obtain ⟨hj, q⟩ := g j p c q; rw [← gs j hj]; exact S.ow j p c q
  · obtain ⟨hj, e1⟩ := g j _ _ e1
    obtain ⟨hk, e2⟩ := g k _ _ e2
    rw [← gs j hj, ← gs k hk]
    exact S.ne j k p q c d n e1 e2
  · obtain ⟨q, c, hc⟩ := S1.pin j x hj
    have nv : j ∉ vs := fun m => by have q := ok j m; rw [hc] at q; cases q
    refine ⟨q, ?_⟩
    obtain ⟨_, c', hc'⟩ := S.pin j x hj
    exact ⟨c', by rw [restR_get ρ1 ρ j hl, if_neg nv]; exact hc'⟩
end
def TSD (X : Cx) (G : Gm) (B : Wish) (ifs : List Expr) (o : O Bool) : Prop := PTs X ifs (Run X.K G B BoR o)
theorem pts_imp {X : Cx} {e : List Expr} {t t' : TT} (h : PTs X e t) (k : ∀ σ H Q, t' σ H Q → t σ H Q) : PTs X e t' := ⟨fun pins s σ H Q I w => h.run pins s σ H Q I (k _ _ _ w)⟩
section
variable {X : Cx} {G : Gm} {B : Wish} {elt tg iter c : Expr} {ifs : List Expr} {scope : Scope} {own : List (Str × Nat)} {pos spos py : Pos} {T : List Nat} {oi : O (List D)} {g : D → Rho → Option Rho} {ot : O Bool} {oe : O D}
theorem tsd_nil : TSD X G B [] oYes := pts_imp pts_nil fun σ H Q ⟨Z, ρ, S, p⟩ => p true Z H (.refl _) S rfl
theorem tsd_one {o : O Bool} (h : TD X G B c o) : TSD X G B [c] o := pts_one h
/-- the reading of a comprehension; its parts are read at any ground (the list that grows is a ghost there) -/
theorem run_lc {K : PySem.W.Frag} {gg : TG} {tt : TT} {te : TE} {vs : List Nat} {σ : St} {H : Hp} {Q : VK} (hT : ∀ t ∈ T, t ∈ vs)
    (hg : ∀ G v σ H Q, gRun K G T g v σ H Q → gg v σ H Q) (ht : ∀ G σ H Q, Run K G noB BoR ot σ H Q → tt σ H Q) (he : ∀ G σ H Q, Run K G noB (PuR K) oe σ H Q → te σ H Q)
    (w : Run K G B (RsR K G) (oLc vs oi g ot oe) σ H Q) : tLc (fun σ H R => Run K G B (ItR K) oi σ H R) gg tt te vs σ H Q :=
  run_imp (C := fun (J : It) H1 => ∀ D, H1 D = none → ∃ W : Nat → Nat → Hp → Prop, (∃ m, W 0 m (upd H1 D (.lst []))) ∧ ∀ i m H, W i m H →
      (J.stop i H ∧ Q (.ref D) H) ∨ (J.go i H ∧ ∃ Nx : Hp → Prop, (∀ H', Nx H' → ∃ m', m' < m ∧ W (i + 1) m' H') ∧ ∀ x H', J.yld i H x H' → gg x (wipe σ vs) H' fun σ2 H2 => wipe σ2 vs = wipe σ vs ∧ tt σ2 H2 fun b H3 =>
        if b = true then te σ2 H3 fun y H4 => ∃ acc, H4 D = some (.lst acc) ∧ acc.length < sizeLine ∧ Nx (upd H4 D (.lst (acc ++ [y]))) else Nx H3)) w fun J ds ρ1 Z1 H1 S1 wd p1 => by
    intro L hL
    unfold lc1 at p1
    split at p1
    · rename_i hok
      obtain ⟨hw, hlen⟩ := hok
      cases hm : lcL vs g ot oe ds (wipeR ρ1 vs) with
      | st => rw [hm] at p1; exact p1.elim
      | ex x ρ2 => rw [hm] at p1; exact p1.elim
      | ok ysF ρF =>
        rw [hm] at p1
        have p2 : Post K G B (RsR K G) σ Z1 (.ok (.nw (.li ysF)) (restR ρ1 ρF vs)) Q := p1
        obtain ⟨Gd, Y, wk, h1, h2⟩ := wd
        have zL : Z1 L = none := S1.fresh hL
        have gL : G.H0 L = none := S1.freshIn hL
        have z0L : G.Z0 L = none := none_of_same S1.zz zL
        have nS1 : ∀ (i : Nat) p c, ρ1[i]? = some (Sl.ow p c) → σ[i]? ≠ some (some (V.ref L)) := fun i p c hi q => by
          obtain ⟨a', o', q', ho', _⟩ := S1.ow i p c hi
          rw [q] at q'
          cases q'
          rw [hL] at ho'
          cases ho'
        have nl : ¬ G.lent L := S1.notLent nS1
        have hv : ∀ v ∈ vs, ∀ x, (v, x) ∉ G.pins := fun v hv x hx => by
          obtain ⟨_, c, hc⟩ := S1.pin v x hx
          have q := List.all_eq_true.mp hw v hv
          rw [hc] at q
          cases q
        have Sw : Sim K G Z1 (wipeR ρ1 vs) (wipe σ vs) (upd H1 L (.lst [])) := (S1.grow (.loose S1.zh hL (.lst []))).wipes hv
        have nSw : ∀ (i : Nat) p c, (wipeR ρ1 vs)[i]? = some (Sl.ow p c) → (wipe σ vs)[i]? ≠ some (some (V.ref L)) := fun i p c hi q => by
          rw [wipeR_get] at hi
          by_cases hj : i ∈ vs
          · rw [if_pos hj] at hi
            split at hi
            · cases hi
            · cases hi
          · rw [if_neg hj] at hi
            rw [wipe_get, if_neg hj] at q
            exact nS1 i p c hi q
        refine lc_it wk (fun i H => ∃ Z ρ acc accV ys, Sim K G Z ρ (wipe σ vs) H ∧ Same Z1 Z ∧ H L = some (.lst accV) ∧ RpAll K Z accV acc ∧ Z L = none ∧ (∀ (i : Nat) p c, ρ[i]? = some (Sl.ow p c) → (wipe σ vs)[i]? ≠ some (some (V.ref L))) ∧
          acc.length ≤ i ∧ lcL vs g ot oe (ds.drop i) ρ = .ok ys ρF ∧ ysF = acc ++ ys)
          ⟨Z1, wipeR ρ1 vs, [], [], ysF, Sw, .refl _, upd_same, .nil, zL, nSw, Nat.le_refl _, by rw [List.drop_zero]; exact hm, rfl⟩ (fun i H' _ ⟨Z, ρ, acc, accV, ys, S, e, _⟩ => h1 H' (e.trans S.zh)) ?_ ?_
        · rintro i x H' H2 hi ⟨Z, ρ, acc, accV, ys, S, e, hacc, racc, zz, nn, hal, hlc, hys⟩ y
          obtain ⟨d, Z', hd, gr, rx⟩ := h2 i H' x H2 Z hi e S.zh y
          have hdr : ds.drop i = d :: ds.drop (i + 1) := by
            rw [List.drop_eq_getElem_cons hi]
            have q := (List.getElem?_eq_some_iff.mp hd).2
            rw [q]
          rw [hdr, lcL_cons] at hlc
          have S' := S.grow gr
          have hacc' : H2 L = some (.lst accV) := gr.h _ _ hacc
          have zz' : Z' L = none := by
            cases q : Z' L with
            | none => rfl
            | some u =>
              rcases gr.n L u q with q' | q'
              · rw [zz] at q'; cases q'
              · rw [hacc] at q'; cases q'
          have SG := S'.toGhost hacc' zz' nn
          cases hg1 : g d ρ with
          | none => rw [hg1] at hlc; cases hlc
          | some ρ2 =>
            rw [hg1] at hlc
            dsimp only at hlc
            refine hg (G.ghost L (.lst accV)) _ _ _ _ ⟨Z', ρ, d, ρ2, SG, rx, hg1, fun σ2 Z2 H3 hl2 hj2 e2 S2 => ?_⟩
            have hw2 : wipe σ2 vs = wipe σ vs := by
              rw [wipe_same hl2 fun j hj => hj2 j fun m => hj (hT j m), wipe_wipe]
            refine ⟨hw2, ht (G.ghost L (.lst accV)) _ _ _ ⟨Z2, ρ2, S2, ?_⟩⟩
            cases ht1 : ot ρ2 with
            | st => rw [ht1] at hlc; cases hlc
            | ex x ρ3 => rw [ht1] at hlc; cases hlc
            | ok b ρ3 =>
              rw [ht1] at hlc
              intro b' Z3 H4 e3 S3 rb
              have rb : b' = b := rb
              subst rb
              cases b' with
              | false =>
                dsimp only at hlc
                rw [if_neg Bool.false_ne_true]
                obtain ⟨S4, h4, z4, n4⟩ := S3.ofGhost gL z0L nl
                have S5 := S4.wipes hv
                rw [hw2] at S5
                refine ⟨Z3, wipeR ρ3 vs, acc, accV, ys, S5, e.trans (gr.z.trans (e2.trans e3)), h4, racc.mono (gr.z.trans (e2.trans e3)), z4, fun i p c hi q => ?_, Nat.le_succ_of_le hal, hlc, hys⟩
                rw [wipeR_get] at hi
                by_cases hj : i ∈ vs
                · rw [if_pos hj] at hi
                  split at hi
                  · cases hi
                  · cases hi
                · rw [if_neg hj] at hi
                  rw [← hw2, wipe_get, if_neg hj] at q
                  exact n4 i p c hi q
              | true =>
                dsimp only at hlc
                rw [if_pos rfl]
                refine he (G.ghost L (.lst accV)) _ _ _ ⟨Z3, ρ3, S3, ?_⟩
                cases he1 : oe ρ3 with
                | st => rw [he1] at hlc; cases hlc
                | ex x ρ4 => rw [he1] at hlc; cases hlc
                | ok y ρ4 =>
                  rw [he1] at hlc
                  dsimp only at hlc
                  intro yv Z4 H5 e4 S4 ry
                  have ry : Rp K Z4 yv y := ry
                  obtain ⟨S5, h5, z5, n5⟩ := S4.ofGhost gL z0L nl
                  cases hr : lcL vs g ot oe (ds.drop (i + 1)) (wipeR ρ4 vs) with
                  | st => rw [hr] at hlc; cases hlc
                  | ex x ρ5 => rw [hr] at hlc; cases hlc
                  | ok ys' ρ5 =>
                    rw [hr] at hlc
                    cases hlc
                    have ea := gr.z.trans (e2.trans (e3.trans e4))
                    have hal' : accV.length = acc.length := racc.length
                    refine ⟨accV, h5, lim_lt (by omega), ?_⟩
                    -- the list has grown
                    have S6 : Sim K G Z4 (wipeR ρ4 vs) (wipe σ vs) (upd H5 L (.lst (accV ++ [yv]))) := by
                      have S7 := S5.wipes hv
                      rw [hw2] at S7
                      have nn7 : ∀ (i : Nat) p c, (wipeR ρ4 vs)[i]? = some (Sl.ow p c) → (wipe σ vs)[i]? ≠ some (some (V.ref L)) := fun i p c hi q => by
                        rw [wipeR_get] at hi
                        by_cases hj : i ∈ vs
                        · rw [if_pos hj] at hi
                          split at hi
                          · cases hi
                          · cases hi
                        · rw [if_neg hj] at hi
                          rw [← hw2, wipe_get, if_neg hj] at q
                          exact n5 i p c hi q
                      refine ⟨S7.zz, fun b u q => ?_, fun b u q l => ?_, S7.nw, S7.pu, fun j p c q => ?_, S7.ne, S7.pin, S7.len⟩
                      · rw [upd_ne (ne_of_none q z5)]; exact S7.zh _ _ q
                      · have hb : b ≠ L := fun e' => by subst e'; rw [gL] at q; cases q
                        rw [upd_ne hb]; exact S7.fr b u q l
                      · obtain ⟨a', o', q', ho', r'⟩ := S7.ow j p c q
                        have hb : a' ≠ L := fun e' => by subst e'; exact nn7 j p c q q'
                        exact ⟨a', o', q', by rw [upd_ne hb]; exact ho', r'⟩
                    refine ⟨Z4, wipeR ρ4 vs, acc ++ [y], accV ++ [yv], ys', S6, e.trans ea, upd_same, (racc.mono ea).append (.one ry), z5, fun i p c hi q => ?_, by simp; omega, hr, by rw [hys]; simp⟩
                    rw [wipeR_get] at hi
                    by_cases hj : i ∈ vs
                    · rw [if_pos hj] at hi
                      split at hi
                      · cases hi
                      · cases hi
                    · rw [if_neg hj] at hi
                      rw [← hw2, wipe_get, if_neg hj] at q
                      exact n5 i p c hi q
        · rintro H' ⟨Z, ρ, acc, accV, ys, S, e, hacc, racc, zz, nn, hal, hlc, hys⟩
          rw [List.drop_length] at hlc
          cases hlc
          rw [List.append_nil] at hys
          subst hys
          have SR := S1.rests S e hw
          refine p2 (.ref L) Z H' e SR ⟨L, .lst accV, rfl, hacc, racc, zz, gL, fun i p c hi q => ?_⟩
          rw [restR_get ρ1 ρF i (by rw [S1.len, S.len, wipe_length])] at hi
          by_cases hj : i ∈ vs
          · rw [if_pos hj] at hi
            exact nS1 i p c hi q
          · rw [if_neg hj] at hi
            refine nn i p c hi ?_
            rw [wipe_get, if_neg hj]
            exact q
    · exact p1.elim
theorem rd_lc (hc : X.calm = true) (hN : X.N.Nodup) (hT : ∀ t ∈ T, t ∈ own.map (·.2)) (hi : ID X G B tg iter oi) (ok : BlkOk X.N X.env.scope scope own)
    (hg : ∀ (s : Shared) (H : Hp) (C : Addr) (cl : List (Str × Addr)) (fp : List Addr) (G : Gm), GD (X.blk s H scope (compEnvC scope cl C X.env) fp) G tg T g)
    (ht : ∀ (s : Shared) (H : Hp) (C : Addr) (cl : List (Str × Addr)) (fp : List Addr) (G : Gm), TSD (X.blk s H scope (compEnvC scope cl C X.env) fp) G noB ifs ot)
    (he : ∀ (s : Shared) (H : Hp) (C : Addr) (cl : List (Str × Addr)) (fp : List Addr) (G : Gm), PD (X.blk s H scope (compEnvC scope cl C X.env) fp) G noB elt oe)
    (hs : ∀ x, foldedSetIterable iter X.env x = pure x := by intro _; rfl) : RD X G B (.ListComp elt [⟨tg, iter, ifs, 0⟩] scope pos) (oLc (own.map (·.2)) oi g ot oe) :=
  pe_imp (pe_lc hc hN hi ok (g := fun v σ H Q => ∃ G, gRun X.K G T g v σ H Q) (tt := fun σ H Q => ∃ G, Run X.K G noB BoR ot σ H Q) (te := fun σ H Q => ∃ G, Run X.K G noB (PuR X.K) oe σ H Q)
    (fun s H C cl fp => ⟨fun pins s' σ H' v u Q I r ⟨G', w⟩ => (hg s H C cl fp G').run pins s' σ H' v u Q I r w⟩) (fun s H C cl fp => ⟨fun pins s' σ H' Q I ⟨G', w⟩ => (ht s H C cl fp G').run pins s' σ H' Q I w⟩)
    (fun s H C cl fp => ⟨fun pins s' σ H' Q I ⟨G', w⟩ => (he s H C cl fp G').run pins s' σ H' Q I w⟩) hs) fun σ H Q w => run_lc hT (fun G _ _ _ _ w => ⟨G, w⟩) (fun G _ _ _ w => ⟨G, w⟩) (fun G _ _ _ w => ⟨G, w⟩) w
theorem sd_setLc (i : Nat) {y : Str} (hc : X.calm = true) (hN : X.N.Nodup) (hT : ∀ t ∈ T, t ∈ own.map (·.2)) (hy : X.N[i]? = some y) (hyl : X.env.scope.names.lookup y = some .local)
    (hsw : swapsWith (.ListComp elt [⟨tg, iter, ifs, 0⟩] scope pos) (some (.Name y py)) spos.line X.env = pure true) (hi : ID X G B tg iter oi) (ok : BlkOk X.N X.env.scope scope own)
    (hg : ∀ (s : Shared) (H : Hp) (C : Addr) (cl : List (Str × Addr)) (fp : List Addr) (G : Gm), GD (X.blk s H scope (compEnvC scope cl C X.env) fp) G tg T g)
    (ht : ∀ (s : Shared) (H : Hp) (C : Addr) (cl : List (Str × Addr)) (fp : List Addr) (G : Gm), TSD (X.blk s H scope (compEnvC scope cl C X.env) fp) G noB ifs ot)
    (he : ∀ (s : Shared) (H : Hp) (C : Addr) (cl : List (Str × Addr)) (fp : List Addr) (G : Gm), PD (X.blk s H scope (compEnvC scope cl C X.env) fp) G noB elt oe)
    (hs : ∀ x, foldedSetIterable iter X.env x = pure x := by intro _; rfl) : SD X G B (.Assign [.Name y py] (.ListComp elt [⟨tg, iter, ifs, 0⟩] scope pos) spos) (oSet i (oLc (own.map (·.2)) oi g ot oe)) :=
  ps_imp (ps_setLc hc hN hy hyl hsw hi ok (g := fun v σ H Q => ∃ G, gRun X.K G T g v σ H Q) (tt := fun σ H Q => ∃ G, Run X.K G noB BoR ot σ H Q) (te := fun σ H Q => ∃ G, Run X.K G noB (PuR X.K) oe σ H Q)
    (fun s H C cl fp => ⟨fun pins s' σ H' v u Q I r ⟨G', w⟩ => (hg s H C cl fp G').run pins s' σ H' v u Q I r w⟩) (fun s H C cl fp => ⟨fun pins s' σ H' Q I ⟨G', w⟩ => (ht s H C cl fp G').run pins s' σ H' Q I w⟩)
    (fun s H C cl fp => ⟨fun pins s' σ H' Q I ⟨G', w⟩ => (he s H C cl fp G').run pins s' σ H' Q I w⟩) hs) fun D σ H w =>
    run_lc (Q := fun x H1 => gName i x σ H1 D.nx) hT (fun G _ _ _ _ w => ⟨G, w⟩) (fun G _ _ _ w => ⟨G, w⟩) (fun G _ _ _ w => ⟨G, w⟩) (asg_name w)
end
end Ow
namespace Ow
open PySem PySem.Spec PyProof.Rows L2
/-! ### defs: data and lent things in, data or a new thing and what was lent out -/
inductive Fr where
  | st
  | ret (r : Rs) (outs : List Sl)
  | exc (x : Xn) (outs : List Sl)
abbrev Fn := List Sl → Fr
structure ArgsR (K : PySem.W.Frag) (Z H : Hp) (vs : List V) (as : List Sl) : Prop where
  len : vs.length = as.length
  no : ∀ i : Nat, as[i]? ≠ some Sl.no
  pu : ∀ (i : Nat) d, as[i]? = some (Sl.pu d) → ∃ v, vs[i]? = some v ∧ Rp K Z v d
  ow : ∀ (i : Nat) p c, as[i]? = some (Sl.ow p c) → p = true ∧ ∃ a o, vs[i]? = some (V.ref a) ∧ H a = some o ∧ CtR K Z o c ∧ Z a = none
  ne : ∀ (i j : Nat) p q c d, i ≠ j → as[i]? = some (Sl.ow p c) → as[j]? = some (Sl.ow q d) → vs[i]? ≠ vs[j]?
def lentBy (vs : List V) (as : List Sl) (a : Addr) : Prop := ∃ (i : Nat) (p : Bool) (c : Ct), as[i]? = some (Sl.ow p c) ∧ vs[i]? = some (V.ref a)
structure After (K : PySem.W.Frag) (Z H : Hp) (vs : List V) (as outs : List Sl) (Z' H' : Hp) : Prop where
  z : Same Z Z'
  zh : Same Z' H'
  fr : ∀ a o, H a = some o → ¬ lentBy vs as a → H' a = some o
  n : ∀ a o, Z' a = some o → Z a = some o ∨ H a = none
  outs : ∀ (i : Nat) p c a, as[i]? = some (Sl.ow p c) → vs[i]? = some (V.ref a) → ∃ o c', outs[i]? = some (Sl.ow true c') ∧ H' a = some o ∧ CtR K Z' o c' ∧ Z' a = none
/-- the exception x: its class stands in the module, its own dict holds what it is told -/
def XnR (K : PySem.W.Frag) (Z : Hp) (x : Xn) (cls : Value) (d : Option Addr) (H : Hp) : Prop :=
  ∃ C, cls = .ref C ∧ PySem.W.nsIn K mainGlobals x.cls = some (some (.ref C)) ∧ (x.told = [] ∨ ∃ dd fs, d = some dd ∧ H dd = some (.xd fs) ∧ fs.map (·.1) = x.told.map (·.1) ∧ RpAll K Z (fs.map (·.2)) (x.told.map (·.2)))
def spD (K : PySem.W.Frag) (n : Nat) (g : Fn) : Sp := fun vs H Q E => vs.length = n ∧ ∃ Z as, Same Z H ∧ ArgsR K Z H vs as ∧ match g as with
  | .st => False
  | .ret r outs => ∀ v Z' H', After K Z H vs as outs Z' H' → ResG K Z' H H' v r → Q v H'
  | .exc x outs => ∀ cls d Z' H', After K Z H vs as outs Z' H' → XnR K Z' x cls d H' → E cls d H'
/-! the body of a def, as such a function -/
def fnOf (n : Nat) (b : Os) : Fn := fun as => match b (as ++ List.replicate (n - as.length) Sl.no) with
  | .nx ρ => .ret (.pu .none) (ρ.take as.length)
  | .rt r ρ => .ret r (ρ.take as.length)
  | _ => .st
def fnOfX (n : Nat) (b : Os) : Fn := fun as => match b (as ++ List.replicate (n - as.length) Sl.no) with
  | .nx ρ => .ret (.pu .none) (ρ.take as.length)
  | .rt r ρ => .ret r (ρ.take as.length)
  | .ex x ρ => .exc x (ρ.take as.length)
  | _ => .st
def pinsOf (vs : List V) (as : List Sl) : List (Nat × Addr) := (List.range as.length).filterMap fun i => match as[i]?, vs[i]? with
  | some (Sl.ow _ _), some (V.ref a) => some (i, a)
  | _, _ => none
theorem mem_pinsOf {vs : List V} {as : List Sl} {i : Nat} {a : Addr} : (i, a) ∈ pinsOf vs as ↔ ∃ p c, as[i]? = some (Sl.ow p c) ∧ vs[i]? = some (V.ref a) := by
  unfold pinsOf
  rw [List.mem_filterMap]
  constructor
  · rintro ⟨j, hj, e⟩
    split at e
    · rename_i p c b h1 h2
      cases e
      exact ⟨p, c, h1, h2⟩
    · cases e
  · rintro ⟨p, c, h1, h2⟩
    refine ⟨i, List.mem_range.mpr (List.getElem?_eq_some_iff.mp h1).1, ?_⟩
    rw [h1, h2]
def gOf (Z H : Hp) (vs : List V) (as : List Sl) : Gm := ⟨H, Z, pinsOf vs as⟩
theorem gOf_lent {Z H : Hp} {vs : List V} {as : List Sl} {a : Addr} : (gOf Z H vs as).lent a ↔ lentBy vs as a := by
  unfold Gm.lent lentBy
  constructor
  · rintro ⟨i, h⟩
    obtain ⟨p, c, h1, h2⟩ := mem_pinsOf.mp h
    exact ⟨i, p, c, h1, h2⟩
  · rintro ⟨i, p, c, h1, h2⟩
    exact ⟨i, mem_pinsOf.mpr ⟨p, c, h1, h2⟩⟩
theorem start_get {N : List Str} {vs : List V} {i : Nat} {v : V} (h : vs[i]? = some v) : (L2.start N vs)[i]? = some (some v) := by
  unfold L2.start
  have hi : i < vs.length := (List.getElem?_eq_some_iff.mp h).1
  rw [List.getElem?_append_left (by simpa using hi), List.getElem?_map, h]
  rfl
theorem sim_start {K : PySem.W.Frag} {Z H : Hp} {vs : List V} {as : List Sl} {N : List Str} (e : Same Z H) (R : ArgsR K Z H vs as) (hl : as.length ≤ N.length) :
    Sim K (gOf Z H vs as) Z (as ++ List.replicate (N.length - as.length) Sl.no) (L2.start N vs) H := by
  have g : ∀ (j : Nat) s, (as ++ List.replicate (N.length - as.length) Sl.no)[j]? = some s → s ≠ .no → as[j]? = some s := fun j s h n => by
    by_cases hj : j < as.length
    · rw [List.getElem?_append_left hj] at h; exact h
    · rw [List.getElem?_append_right (by omega), List.getElem?_replicate] at h
      split at h
      · cases h; exact absurd rfl n
      · cases h
  refine ⟨.refl _, e, fun a o h _ => h, fun a o h => .inl h, fun i d h => ?_, fun i p c h => ?_, fun i j p q c d n h1 h2 => ?_, fun i a h => ?_, ?_⟩
  · obtain ⟨v, h1, h2⟩ := R.pu i d (g i _ h (by simp)); exact ⟨v, start_get h1, h2⟩
  · have h' := g i _ h (by simp)
    obtain ⟨rfl, a, o, h1, h2, h3, h4⟩ := R.ow i p c h'
    exact ⟨a, o, start_get h1, h2, h3, h4, fun _ => gOf_lent.mpr ⟨i, _, c, h', h1⟩, fun q => by cases q⟩
  · have h1' := g i _ h1 (by simp)
    have h2' := g j _ h2 (by simp)
    obtain ⟨_, a, _, q1, _⟩ := R.ow i p c h1'
    obtain ⟨_, b, _, q2, _⟩ := R.ow j q d h2'
    rw [start_get q1, start_get q2]
    intro e'
    cases e'
    exact R.ne i j p q c d n h1' h2' (q1.trans q2.symm)
  · obtain ⟨p, c, h1, h2⟩ := mem_pinsOf.mp h
    obtain ⟨rfl, _⟩ := R.ow i p c h1
    refine ⟨start_get h2, c, ?_⟩
    rw [List.getElem?_append_left (List.getElem?_eq_some_iff.mp h1).1]
    exact h1
  · unfold L2.start
    rw [List.length_append, List.length_append, List.length_map, List.length_replicate, List.length_replicate, R.len]
theorem after_of {K : PySem.W.Frag} {Z H Z' H' : Hp} {vs : List V} {as : List Sl} {ρ : Rho} {σ : L2.St} (S : Sim K (gOf Z H vs as) Z' ρ σ H') : After K Z H vs as (ρ.take as.length) Z' H' := by
  refine ⟨S.zz, S.zh, fun a o h l => S.fr a o h fun q => l (gOf_lent.mp q), S.nw, fun i p c a h1 h2 => ?_⟩
  obtain ⟨q, c', hc'⟩ := S.pin i a (mem_pinsOf.mpr ⟨p, c, h1, h2⟩)
  obtain ⟨b, o, q', ho, r, z, _⟩ := S.ow i _ _ hc'
  rw [q] at q'
  cases q'
  refine ⟨o, c', ?_, ho, r, z⟩
  rw [List.getElem?_take_of_lt (List.getElem?_eq_some_iff.mp h1).1]
  exact hc'
theorem res_of {K : PySem.W.Frag} {Z H Z' H' : Hp} {vs : List V} {as : List Sl} {ρ : Rho} {σ : L2.St} {v : V} {r : Rs} (h : RsR K (gOf Z H vs as) Z' ρ σ H' v r) : ResG K Z' H H' v r := by
  cases r with
  | pu d => exact h
  | nw c =>
    obtain ⟨a, o, e, ho, cr, z, n, _⟩ := h
    exact ⟨a, o, e, n, z, ho, cr⟩
section
variable {P : Program} {w : World} {K : PySem.W.Frag} {mg : Str → Option Value} {base : Heap} {x qual : Str} {params : Arguments} {body : List Stmt} {scope : Scope} {dvs : List V} {kws : List (Str × V)} {f : Addr} {fd : FuncData}
/-- THE RULE for a def that lets nothing out -/
theorem fn_ok {N ps : List Str} {k : Nat} {b : Os} (F : FunD K x qual params body scope dvs kws f fd) (S : FnScope N ps scope) (hpl : ps.length ≤ N.length)
    (hb : ∀ (cdv : Value) (A : Around) (outer : List Env) (s : Shared) (H : Hp) (E : XK), Room k (A.deeper (envOfC qual scope s.heap.objs.size f cdv)) → ∀ G, BD (cxOf CX0 P w K mg base N qual scope f cdv A outer s H E).nox G noB body b) :
    FnOk P w K mg base CX0 (k + 1) f fd ps (spD K ps.length (fnOf N.length b)) := by
  refine F.ok S (fun vs H Q E h => h.1) (fun cdv A outer s H vs Q E hr h => ⟨fun D σ H => ∃ G, RunS K G noB b D σ H, PSs.nox ?_, ?_⟩)
  · exact ⟨fun pins s' σ H' D I ⟨G, w⟩ => (hb cdv A outer s H E hr G).run pins s' σ H' D I w⟩
  · obtain ⟨hl, Z, as, e, R, h⟩ := h
    have hla : as.length = ps.length := by rw [← R.len]; exact hl
    refine ⟨gOf Z H vs as, Z, _, sim_start e R (by omega), ?_⟩
    unfold fnOf at h
    cases hm : b (as ++ List.replicate (N.length - as.length) Sl.no) with
    | st => rw [hm] at h; exact h.elim
    | bk ρ => rw [hm] at h; exact h.elim
    | ct ρ => rw [hm] at h; exact h.elim
    | nx ρ => rw [hm] at h; exact fun σ Z' H' e' S' => h .non Z' H' (after_of S') .non
    | rt r ρ => rw [hm] at h; exact fun v σ Z' H' e' S' hr' => h v Z' H' (after_of S') (res_of hr')
    | ex y ρ => rw [hm] at h; exact h.elim
end
/-! ### a call -/
def argOf (ρ : Rho) : Va → Option Sl
  | .pu d => some (.pu d)
  | .rf i => match ρ[i]? with
    | some (.ow _ c) => some (.ow true c)
    | _ => none
def argsOf (ρ : Rho) : List Va → Option (List Sl)
  | [] => some []
  | a :: as => match argOf ρ a, argsOf ρ as with
    | some s, some r => some (s :: r)
    | _, _ => none
@[simp] theorem argsOf_nil (ρ : Rho) : argsOf ρ [] = some [] := rfl
@[simp] theorem argsOf_cons (ρ : Rho) (a : Va) (as : List Va) : argsOf ρ (a :: as) = match argOf ρ a, argsOf ρ as with | some s, some r => some (s :: r) | _, _ => none := rfl
@[simp] theorem argOf_pu (ρ : Rho) (d : D) : argOf ρ (.pu d) = some (.pu d) := rfl
def rfs : List Va → List Nat
  | [] => []
  | .rf i :: as => i :: rfs as
  | .pu _ :: as => rfs as
@[simp] theorem rfs_nil : rfs [] = [] := rfl
@[simp] theorem rfs_pu (d : D) (as : List Va) : rfs (.pu d :: as) = rfs as := rfl
@[simp] theorem rfs_rf (i : Nat) (as : List Va) : rfs (.rf i :: as) = i :: rfs as := rfl
def setCt (ρ : Rho) (i : Nat) (c : Ct) : Rho := match ρ[i]? with
  | some (.ow p _) => ρ.set i (.ow p c)
  | _ => ρ
def wb : List Va → List Sl → Rho → Rho
  | .rf i :: vs, .ow _ c :: os, ρ => wb vs os (setCt ρ i c)
  | _ :: vs, _ :: os, ρ => wb vs os ρ
  | _, _, ρ => ρ
@[simp] theorem wb_nil (os : List Sl) (ρ : Rho) : wb [] os ρ = ρ := by cases os <;> rfl
@[simp] theorem wb_rf (i : Nat) (vs : List Va) (p : Bool) (c : Ct) (os : List Sl) (ρ : Rho) : wb (.rf i :: vs) (.ow p c :: os) ρ = wb vs os (setCt ρ i c) := rfl
@[simp] theorem wb_pu (d : D) (vs : List Va) (o : Sl) (os : List Sl) (ρ : Rho) : wb (.pu d :: vs) (o :: os) ρ = wb vs os ρ := by cases o <;> rfl
def call1 (g : Fn) (vas : List Va) (ρ : Rho) : M Rs := match argsOf ρ vas with
  | some as => if (rfs vas).Nodup then match g as with
    | .st => .st
    | .ret r outs => .ok r (wb vas outs ρ)
    | .exc x outs => .ex x (wb vas outs ρ)
    else .st
  | none => .st
def oCall (g : Fn) (oas : O (List Va)) : O Rs := fun ρ => (oas ρ).bind (call1 g)
theorem setCt_length (ρ : Rho) (i : Nat) (c : Ct) : (setCt ρ i c).length = ρ.length := by
  unfold setCt
  split
  · rw [List.length_set]
  · rfl
theorem setCt_ne (ρ : Rho) {i j : Nat} (c : Ct) (h : i ≠ j) : (setCt ρ i c)[j]? = ρ[j]? := by
  unfold setCt
  split
  · rw [List.getElem?_set_ne h]
  · rfl
theorem setCt_eq {ρ : Rho} {i : Nat} {p : Bool} {c : Ct} (c' : Ct) (h : ρ[i]? = some (Sl.ow p c)) : (setCt ρ i c')[i]? = some (Sl.ow p c') := by
  unfold setCt
  rw [h]
  exact List.getElem?_set_self (List.getElem?_eq_some_iff.mp h).1
theorem wb_length : ∀ (vs : List Va) (os : List Sl) (ρ : Rho), (wb vs os ρ).length = ρ.length
  | [], os, ρ => by rw [wb_nil]
  | .pu d :: vs, [], ρ => rfl
  | .rf i :: vs, [], ρ => rfl
  | .pu d :: vs, o :: os, ρ => by rw [wb_pu]; exact wb_length vs os ρ
  | .rf i :: vs, .ow p c :: os, ρ => by rw [wb_rf, wb_length vs os, setCt_length]
  | .rf i :: vs, .no :: os, ρ => wb_length vs os ρ
  | .rf i :: vs, .pu _ :: os, ρ => wb_length vs os ρ
theorem wb_out {j : Nat} : ∀ (vs : List Va) (os : List Sl) (ρ : Rho), j ∉ rfs vs → (wb vs os ρ)[j]? = ρ[j]?
  | [], os, ρ, _ => by rw [wb_nil]
  | .pu d :: vs, [], ρ, _ => rfl
  | .rf i :: vs, [], ρ, _ => rfl
  | .pu d :: vs, o :: os, ρ, h => by rw [wb_pu]; exact wb_out vs os ρ h
  | .rf i :: vs, .ow p c :: os, ρ, h => by
    rw [rfs_rf, List.mem_cons, not_or] at h
    rw [wb_rf, wb_out vs os _ h.2, setCt_ne ρ c (Ne.symm h.1)]
  | .rf i :: vs, .no :: os, ρ, h => wb_out vs os ρ fun q => h (by rw [rfs_rf]; exact List.mem_cons_of_mem _ q)
  | .rf i :: vs, .pu _ :: os, ρ, h => wb_out vs os ρ fun q => h (by rw [rfs_rf]; exact List.mem_cons_of_mem _ q)
theorem mem_rfs : ∀ {vs : List Va} {j : Nat}, j ∈ rfs vs ↔ ∃ n : Nat, vs[n]? = some (Va.rf j)
  | [], j => by simp
  | .pu d :: vs, j => by
    rw [rfs_pu, mem_rfs]
    constructor
    · rintro ⟨n, h⟩; exact ⟨n + 1, by simpa using h⟩
    · rintro ⟨n, h⟩
      cases n with
      | zero => simp at h
      | succ n => exact ⟨n, by simpa using h⟩
  | .rf i :: vs, j => by
    rw [rfs_rf, List.mem_cons, mem_rfs]
    constructor
    · rintro (rfl | ⟨n, h⟩)
      · exact ⟨0, rfl⟩
      · exact ⟨n + 1, by simpa using h⟩
    · rintro ⟨n, h⟩
      cases n with
      | zero => simp at h; exact .inl h.symm
      | succ n => exact .inr ⟨n, by simpa using h⟩
theorem wb_in {j : Nat} {p q : Bool} {c c' : Ct} : ∀ {vs : List Va} {os : List Sl} {ρ : Rho} {n : Nat}, (rfs vs).Nodup → vs[n]? = some (Va.rf j) → os[n]? = some (Sl.ow q c') → ρ[j]? = some (Sl.ow p c) → (wb vs os ρ)[j]? = some (Sl.ow p c')
  | [], _, _, _, _, h, _, _ => by simp at h
  | _ :: _, [], _, _, _, _, h, _ => by simp at h
  | .pu d :: vs, o :: os, ρ, n, nd, h1, h2, h3 => by
    rw [wb_pu]
    cases n with
    | zero => simp at h1
    | succ n => exact wb_in (n := n) (by simpa using nd) (by simpa using h1) (by simpa using h2) h3
  | .rf i :: vs, o :: os, ρ, n, nd, h1, h2, h3 => by
    rw [rfs_rf, List.nodup_cons] at nd
    cases n with
    | zero =>
      simp at h1 h2
      subst h1 h2
      rw [wb_rf, wb_out vs os _ nd.1]
      exact setCt_eq c' h3
    | succ n =>
      have hj : j ∈ rfs vs := mem_rfs.mpr ⟨n, by simpa using h1⟩
      have hij : i ≠ j := fun e => nd.1 (by rw [e]; exact hj)
      cases o with
      | ow p' c1 =>
        rw [wb_rf]
        exact wb_in (n := n) nd.2 (by simpa using h1) (by simpa using h2) (by rw [setCt_ne ρ c1 hij]; exact h3)
      | no => exact wb_in (vs := vs) (os := os) (ρ := ρ) (n := n) nd.2 (by simpa using h1) (by simpa using h2) h3
      | pu d => exact wb_in (vs := vs) (os := os) (ρ := ρ) (n := n) nd.2 (by simpa using h1) (by simpa using h2) h3
section
variable {K : PySem.W.Frag} {G : Gm} {Z : Hp} {ρ : Rho} {σ : L2.St} {H : Hp} {vs : List V} {vas : List Va} {as outs : List Sl}
theorem argsOf_get : ∀ {vas : List Va} {as : List Sl} {i : Nat}, argsOf ρ vas = some as → (∀ va, vas[i]? = some va → ∃ s, argOf ρ va = some s ∧ as[i]? = some s) ∧ (∀ s, as[i]? = some s → ∃ va, vas[i]? = some va ∧ argOf ρ va = some s)
  | [], as, i, h => by cases h; simp
  | a :: vas, as, i, h => by
    unfold argsOf at h
    split at h
    · rename_i s r h1 h2
      cases h
      cases i with
      | zero => exact ⟨fun va q => ⟨s, by simp at q; subst q; exact ⟨h1, rfl⟩⟩, fun s' q => ⟨a, rfl, by simp at q; subst q; exact h1⟩⟩
      | succ i =>
        obtain ⟨q1, q2⟩ := argsOf_get (i := i) h2
        exact ⟨fun va q => by obtain ⟨s', e1, e2⟩ := q1 va (by simpa using q); exact ⟨s', e1, by simpa using e2⟩, fun s' q => by obtain ⟨va, e1, e2⟩ := q2 s' (by simpa using q); exact ⟨va, by simpa using e1, e2⟩⟩
    · cases h
theorem vasR_get (r : VasR K Z ρ σ H vs vas) {i : Nat} {va : Va} (h : vas[i]? = some va) : ∃ v, vs[i]? = some v ∧ VaR K Z ρ σ H v va := by
  have key : ∀ {l₁ : List V} {l₂ : List Va} {i : Nat}, Paired (VaR K Z ρ σ H) l₁ l₂ → l₂[i]? = some va → ∃ v, l₁[i]? = some v ∧ VaR K Z ρ σ H v va := by
    intro l₁ l₂ i r
    induction r generalizing i with
    | nil => intro h; simp at h
    | cons h1 h2 ih =>
      intro h
      cases i with
      | zero => simp at h; subst h; exact ⟨_, rfl, h1⟩
      | succ i => obtain ⟨v, q1, q2⟩ := ih (by simpa using h); exact ⟨v, by simpa using q1, q2⟩
  exact key r h
theorem argsOf_length : ∀ {vas : List Va} {as : List Sl}, argsOf ρ vas = some as → as.length = vas.length
  | [], _, h => by cases h; rfl
  | a :: vas, _, h => by
    unfold argsOf at h
    split at h
    · cases h; simp [argsOf_length ‹_›]
    · cases h
theorem argOf_pu' {va : Va} {d : D} (h : argOf ρ va = some (.pu d)) : va = .pu d := by
  cases va with
  | pu d' => cases h; rfl
  | rf i =>
    unfold argOf at h
    split at h
    · cases ‹Va.rf i = _›
    · split at h
      · cases h
      · cases h
theorem argOf_ow {va : Va} {p : Bool} {c : Ct} (h : argOf ρ va = some (.ow p c)) : p = true ∧ ∃ i q, va = .rf i ∧ ρ[i]? = some (.ow q c) := by
  cases va with
  | pu d' => cases h
  | rf i =>
    unfold argOf at h
    split at h
    · cases h
    · rename_i j e
      cases e
      split at h
      · rename_i q c' hr
        cases h
        exact ⟨rfl, i, q, rfl, hr⟩
      · cases h
theorem argOf_no {va : Va} : argOf ρ va ≠ some .no := by
  intro h
  cases va with
  | pu d' => cases h
  | rf i =>
    unfold argOf at h
    split at h
    · cases h
    · split at h
      · cases h
      · cases h
theorem nodup_rfs : ∀ {vas : List Va} {m n j : Nat}, (rfs vas).Nodup → vas[m]? = some (Va.rf j) → vas[n]? = some (Va.rf j) → m = n
  | [], m, n, j, _, h, _ => by simp at h
  | .pu d :: vas, m, n, j, nd, h1, h2 => by
    cases m with
    | zero => simp at h1
    | succ m =>
      cases n with
      | zero => simp at h2
      | succ n => exact congrArg (· + 1) (nodup_rfs (vas := vas) (j := j) (by simpa using nd) (by simpa using h1) (by simpa using h2))
  | .rf i :: vas, m, n, j, nd, h1, h2 => by
    rw [rfs_rf, List.nodup_cons] at nd
    cases m with
    | zero =>
      cases n with
      | zero => rfl
      | succ n =>
        simp at h1
        subst h1
        exact absurd (mem_rfs.mpr ⟨n, by simpa using h2⟩) nd.1
    | succ m =>
      cases n with
      | zero =>
        simp at h2
        subst h2
        exact absurd (mem_rfs.mpr ⟨m, by simpa using h1⟩) nd.1
      | succ n => exact congrArg (· + 1) (nodup_rfs (vas := vas) (j := j) nd.2 (by simpa using h1) (by simpa using h2))
theorem args_of (S : Sim K G Z ρ σ H) (r : VasR K Z ρ σ H vs vas) (h : argsOf ρ vas = some as) (nd : (rfs vas).Nodup) : ArgsR K Z H vs as := by
  refine ⟨?_, fun i e => ?_, fun i d e => ?_, fun i p c e => ?_, fun i j p q c d n e1 e2 => ?_⟩
  · rw [Paired.length r, argsOf_length h]
  · obtain ⟨va, _, q⟩ := (argsOf_get (i := i) h).2 _ e
    exact argOf_no q
  · obtain ⟨va, q1, q2⟩ := (argsOf_get (i := i) h).2 _ e
    have e' := argOf_pu' q2
    subst e'
    exact vasR_get r q1
  · obtain ⟨va, q1, q2⟩ := (argsOf_get (i := i) h).2 _ e
    obtain ⟨rfl, j, q, rfl, hr⟩ := argOf_ow q2
    obtain ⟨v, h1, h2⟩ := vasR_get r q1
    obtain ⟨a, o, h3, h4, h5, h6, _⟩ := S.ow j q c hr
    have h2 : σ[j]? = some (some v) := h2
    rw [h3] at h2
    cases h2
    exact ⟨rfl, a, o, h1, h4, h5, h6⟩
  · obtain ⟨va, q1, q2⟩ := (argsOf_get (i := i) h).2 _ e1
    obtain ⟨_, i', p', rfl, hr⟩ := argOf_ow q2
    obtain ⟨vb, q3, q4⟩ := (argsOf_get (i := j) h).2 _ e2
    obtain ⟨_, j', p'', rfl, hr'⟩ := argOf_ow q4
    obtain ⟨v, h1, h2⟩ := vasR_get r q1
    obtain ⟨v', h3, h4⟩ := vasR_get r q3
    have hij : i' ≠ j' := fun e => by subst e; exact n (nodup_rfs nd q1 q3)
    rw [h1, h3]
    intro e
    cases e
    have h2 : σ[i']? = some (some v) := h2
    have h4 : σ[j']? = some (some v) := h4
    exact S.ne i' j' _ _ _ _ hij hr hr' (h2.trans h4.symm)
theorem Sim.after (S : Sim K G Z ρ σ H) (r : VasR K Z ρ σ H vs vas) (h : argsOf ρ vas = some as) (nd : (rfs vas).Nodup) {Z' H' : Hp} (A : After K Z H vs as outs Z' H') : Sim K G Z' (wb vas outs ρ) σ H' := by
  -- what stands at a lent slot
  have lent : ∀ {n j : Nat} {p : Bool} {c : Ct} {a : Addr}, vas[n]? = some (Va.rf j) → ρ[j]? = some (Sl.ow p c) → σ[j]? = some (some (V.ref a)) → as[n]? = some (Sl.ow true c) ∧ vs[n]? = some (V.ref a) := fun {n j p c a} h1 h2 h3 => by
    obtain ⟨s, q1, q2⟩ := (argsOf_get (i := n) h).1 _ h1
    obtain ⟨v, q3, q4⟩ := vasR_get r h1
    have q4 : σ[j]? = some (some v) := q4
    rw [h3] at q4
    cases q4
    have q5 : argOf ρ (.rf j) = some (.ow true c) := by unfold argOf; dsimp only; rw [h2]
    rw [q5] at q1
    cases q1
    exact ⟨q2, q3⟩
  have lb : ∀ {a : Addr}, lentBy vs as a → ∃ (j : Nat) (p : Bool) (c : Ct), ρ[j]? = some (Sl.ow p c) ∧ σ[j]? = some (some (V.ref a)) ∧ j ∈ rfs vas := fun {a} ⟨n, p, c, h1, h2⟩ => by
    obtain ⟨va, q1, q2⟩ := (argsOf_get (i := n) h).2 _ h1
    obtain ⟨_, j, p', rfl, hr⟩ := argOf_ow q2
    obtain ⟨v, q3, q4⟩ := vasR_get r q1
    rw [h2] at q3
    cases q3
    exact ⟨j, p', c, hr, q4, mem_rfs.mpr ⟨n, q1⟩⟩
  have get : ∀ {j : Nat} {s : Sl}, (wb vas outs ρ)[j]? = some s → (j ∉ rfs vas ∧ ρ[j]? = some s) ∨ (∃ n p c a o c', vas[n]? = some (Va.rf j) ∧ ρ[j]? = some (Sl.ow p c) ∧ σ[j]? = some (some (V.ref a)) ∧ s = .ow p c' ∧ H' a = some o ∧ CtR K Z' o c' ∧ Z' a = none) := fun {j s} e => by
    by_cases hj : j ∈ rfs vas
    · obtain ⟨n, hn⟩ := mem_rfs.mp hj
      obtain ⟨s', q1, q2⟩ := (argsOf_get (i := n) h).1 _ hn
      have hex : ∃ p c, ρ[j]? = some (Sl.ow p c) := by
        unfold argOf at q1
        dsimp only at q1
        split at q1
        · exact ⟨_, _, ‹_›⟩
        · cases q1
      obtain ⟨p, c, hr⟩ := hex
      obtain ⟨a, o0, h3, _⟩ := S.ow j p c hr
      obtain ⟨l1, l2⟩ := lent hn hr h3
      obtain ⟨o, c', h4, h5, h6, h7⟩ := A.outs n true c a l1 l2
      rw [wb_in nd hn h4 hr] at e
      cases e
      exact .inr ⟨n, p, c, a, o, c', hn, hr, h3, rfl, h5, h6, h7⟩
    · rw [wb_out vas outs ρ hj] at e
      exact .inl ⟨hj, e⟩
  refine ⟨S.zz.trans A.z, A.zh, fun a o e l => ?_, fun a o e => ?_, fun i d e => ?_, fun i p c e => ?_, fun i j p q c d n e1 e2 => ?_, fun i a e => ?_, by rw [wb_length]; exact S.len⟩
  · refine A.fr a o (S.fr a o e l) fun q => ?_
    obtain ⟨j, p, c, h1, h2, _⟩ := lb q
    obtain ⟨b, _, h3, _, _, _, h4, h5⟩ := S.ow j p c h1
    rw [h2] at h3
    cases h3
    cases p with
    | true => exact l (h4 rfl)
    | false => rw [h5 rfl] at e; cases e
  · exact (A.n a o e).elim (fun q => S.nw a o q) fun q => .inr (S.freshIn q)
  · rcases get e with ⟨_, e⟩ | ⟨_, _, _, _, _, _, _, _, _, e', _⟩
    · obtain ⟨v, q, r'⟩ := S.pu i d e
      exact ⟨v, q, r'.mono A.z⟩
    · cases e'
  · rcases get e with ⟨hi, e⟩ | ⟨n, p', c0, a, o, c', hn, hr, h3, e', h4, h5, h6⟩
    · obtain ⟨a, o, h1, h2, h3, h4, h5⟩ := S.ow i p c e
      refine ⟨a, o, h1, A.fr a o h2 fun q => ?_, h3.mono A.z, ?_, h5⟩
      · obtain ⟨j, p', c', q1, q2, q3⟩ := lb q
        have hij : i ≠ j := fun e' => by subst e'; exact hi q3
        exact S.ne i j _ _ _ _ hij e q1 (h1.trans q2.symm)
      · cases q : Z' a with
        | none => rfl
        | some u =>
          rcases A.n a u q with w | w
          · rw [h4] at w; cases w
          · rw [h2] at w; cases w
    · cases e'
      obtain ⟨a', _, h7, _, _, _, h8⟩ := S.ow i _ _ hr
      rw [h3] at h7
      cases h7
      exact ⟨a, o, h3, h4, h5, h6, h8⟩
  · have ex : ∀ {j : Nat} {p : Bool} {c : Ct}, (wb vas outs ρ)[j]? = some (Sl.ow p c) → ∃ p' c', ρ[j]? = some (Sl.ow p' c') := fun {j p c} e => by
      rcases get e with ⟨_, e⟩ | ⟨_, p', c', _, _, _, _, hr, _⟩
      · exact ⟨p, c, e⟩
      · exact ⟨p', c', hr⟩
    obtain ⟨_, _, x1⟩ := ex e1
    obtain ⟨_, _, x2⟩ := ex e2
    exact S.ne i j _ _ _ _ n x1 x2
  · obtain ⟨q, c, hc⟩ := S.pin i a e
    refine ⟨q, ?_⟩
    by_cases hi : i ∈ rfs vas
    · obtain ⟨n, hn⟩ := mem_rfs.mp hi
      obtain ⟨l1, l2⟩ := lent hn hc q
      obtain ⟨o, c', h4, _⟩ := A.outs n true c a l1 l2
      exact ⟨c', wb_in nd hn h4 hc⟩
    · exact ⟨c, by rw [wb_out vas outs ρ hi]; exact hc⟩
theorem Sim.resAfter (S : Sim K G Z ρ σ H) {Z' H' : Hp} {v : V} {x : Rs} (hr : ResG K Z' H H' v x) {ρ' : Rho} (S' : Sim K G Z' ρ' σ H') (hk : ∀ (i : Nat) p c, ρ'[i]? = some (Sl.ow p c) → ∃ p' c', ρ[i]? = some (Sl.ow p' c')) : RsR K G Z' ρ' σ H' v x := by
  cases x with
  | pu d => exact hr
  | nw c =>
    obtain ⟨a, o, e, n, z, ho, cr⟩ := hr
    refine ⟨a, o, e, ho, cr, z, S.freshIn n, fun i p c' hi q => ?_⟩
    obtain ⟨p', c'', hi'⟩ := hk i p c' hi
    obtain ⟨a', o', q', ho', _⟩ := S.ow i p' c'' hi'
    rw [q] at q'
    cases q'
    rw [n] at ho'
    cases ho'
theorem wb_kind : ∀ {vas : List Va} {outs : List Sl} {ρ : Rho} {i : Nat} {p : Bool} {c : Ct}, (wb vas outs ρ)[i]? = some (Sl.ow p c) → ∃ p' c', ρ[i]? = some (Sl.ow p' c')
  | [], os, ρ, i, p, c, h => by rw [wb_nil] at h; exact ⟨p, c, h⟩
  | .pu d :: vs, [], ρ, i, p, c, h => ⟨p, c, h⟩
  | .rf j :: vs, [], ρ, i, p, c, h => ⟨p, c, h⟩
  | .pu d :: vs, o :: os, ρ, i, p, c, h => by rw [wb_pu] at h; exact wb_kind h
  | .rf j :: vs, .no :: os, ρ, i, p, c, h => wb_kind (vas := vs) (outs := os) h
  | .rf j :: vs, .pu _ :: os, ρ, i, p, c, h => wb_kind (vas := vs) (outs := os) h
  | .rf j :: vs, .ow p1 c1 :: os, ρ, i, p, c, h => by
    rw [wb_rf] at h
    obtain ⟨p', c', h'⟩ := wb_kind h
    unfold setCt at h'
    split at h'
    · rename_i q c2 hq
      by_cases e : j = i
      · subst e; exact ⟨q, c2, hq⟩
      · rw [List.getElem?_set_ne e] at h'; exact ⟨p', c', h'⟩
    · exact ⟨p', c', h'⟩
end
section
variable {X : Cx} {G : Gm} {B : Wish} {CX : CXT} {k n : Nat} {f : Addr} {fd : FuncData} {ps : List Str} {g : Fn} {E : XK} {x : Str} {p pos : Pos} {e : Expr} {es : List Expr} {oas : O (List Va)}
/-- what a callee's exception is wished to do here -/
theorem run_call {K : PySem.W.Frag} {σ : L2.St} {H : Hp} {Q : VK} (hB : ∀ x ρ Z σ H, B x ρ Z σ H → ∀ cls d, XnR K Z x cls d H → E cls d H) (hnd : True) (hl : ∀ ρ vas ρ1, oas ρ = .ok vas ρ1 → vas.length = n)
    (w : Run K G B (RsR K G) (oCall g oas) σ H Q) : Run K G B (VasR K) oas σ H fun vs H1 => spD K n g vs H1 Q E := by
  obtain ⟨Z, ρ, S, p⟩ := w
  refine ⟨Z, ρ, S, ?_⟩
  cases ho : oas ρ with
  | st => unfold oCall at p; rw [ho] at p; exact p.elim
  | ex y ρ1 => unfold oCall at p; rw [ho] at p; exact p
  | ok vas ρ1 =>
    unfold oCall at p
    rw [ho] at p
    intro vs Z1 H1 e1 S1 r1
    have p1 : Post K G B (RsR K G) σ Z (call1 g vas ρ1) Q := p
    have r1 : VasR K Z1 ρ1 σ H1 vs vas := r1
    unfold call1 at p1
    split at p1
    · rename_i as ha
      split at p1
      · rename_i nd
        refine ⟨by rw [Paired.length r1]; exact hl ρ vas ρ1 ho, Z1, as, S1.zh, args_of S1 r1 ha nd, ?_⟩
        cases hg : g as with
        | st => rw [hg] at p1; exact p1
        | ret r outs =>
          rw [hg] at p1
          intro v Z' H' A hr
          have S2 := S1.after r1 ha nd A
          exact p1 v Z' H' (e1.trans A.z) S2 (S1.resAfter hr S2 fun i p c h => wb_kind h)
        | exc y outs =>
          rw [hg] at p1
          intro cls d Z' H' A hx
          exact hB _ _ _ _ _ (p1 Z' H' (e1.trans A.z) (S1.after r1 ha nd A)) cls d hx
      · exact p1.elim
    · exact p1.elim
/-- the number of arguments -/
def Many {α : Type} (n : Nat) (o : O (List α)) : Prop := ∀ ρ as ρ1, o ρ = .ok as ρ1 → as.length = n
theorem many_nil {α : Type} : Many 0 (oNil : O (List α)) := fun ρ as ρ1 h => by cases h; rfl
theorem many_cons {α : Type} {m : Nat} {o : O α} {o' : O (List α)} (h : Many m o') : Many (m + 1) (oCons o o') := fun ρ as ρ1 q => by
  unfold oCons at q
  cases h1 : o ρ with
  | st => rw [h1] at q; cases q
  | ex x ρ2 => rw [h1] at q; cases q
  | ok a ρ2 =>
    rw [h1] at q
    cases h2 : o' ρ2 with
    | st => simp [h2] at q
    | ex x ρ3 => simp [h2] at q
    | ok as' ρ3 =>
      simp [h2] at q
      obtain ⟨rfl, rfl⟩ := q
      simp [h ρ2 as' ρ3 h2]
theorem rd_call (F : FnOk X.prog X.w X.K X.mg X.base CX0 k f fd ps (spD X.K n g)) (hr : Room k X.A) (hg : Gl X x) (hm : X.mg x = some (.ref f)) (hk : PySem.W.keepIn X.K (.ref f) = true) (hb : Binds X.K fd ps [])
    (ha : AD X G noB (e :: es) oas) (hl : Many n oas) (hdb : (x == ("__debug__" : Str)) = false := by decide) (he : starEach (e :: es) X.env = (false, eval e X.env) :: starEach es X.env := by rfl) (hpl : (backTo pos (starEach es X.env)).any (·.1) = false := by rfl) :
    RD X G noB (.Call (.Name x p) (e :: es) [] pos) (oCall g oas) :=
  pe_imp (pe_call F hr hg hm hk hb .nil pass0 ha hdb he hpl) fun σ H Q w => by
    have q := run_call (E := E0) (n := n) (fun _ _ _ _ _ h => h.elim) trivial hl w
    unfold tCall
    simp only [List.append_nil]
    exact q
theorem rd_call0 (F : FnOk X.prog X.w X.K X.mg X.base CX0 k f fd ps (spD X.K 0 g)) (hr : Room k X.A) (hg : Gl X x) (hm : X.mg x = some (.ref f)) (hk : PySem.W.keepIn X.K (.ref f) = true) (hb : Binds X.K fd ps [])
    (hdb : (x == ("__debug__" : Str)) = false := by decide) : RD X G noB (.Call (.Name x p) [] [] pos) (oCall g oNil) :=
  pe_imp (pe_call0 F hr hg hm hk hb .nil pass0 hdb) fun σ H Q w => by
    have q := run_call (E := E0) (n := 0) (fun _ _ _ _ _ h => h.elim) trivial many_nil w
    obtain ⟨Z, ρ, S, p⟩ := q
    exact p [] Z H (.refl _) S .nil
end
end Ow
namespace Ow
open PySem L2
/-! ### dicts -/
def keyOf : D → Option Key
  | .int i => some (.inl i)
  | .str x => some (.inr x)
  | _ => none
def keysOf : List D → Option (List Key)
  | [] => some []
  | d :: ds => match keyOf d, keysOf ds with
    | some k, some ks => some (k :: ks)
    | _, _ => none
def tkOf : D → Option (List Key)
  | .tuple ds => keysOf ds
  | _ => none
section
variable {κ : Type} [DecidableEq κ]
def valD (kvs : List (κ × D)) (k : κ) : Option D := (kvs.find? fun kv => decide (kv.1 = k)).map (·.2)
def putD (kvs : List (κ × D)) (k : κ) (v : D) : List (κ × D) :=
  if (kvs.any fun kv => decide (kv.1 = k)) = true then kvs.map (fun kv => if kv.1 = k then (kv.1, v) else kv) else kvs ++ [(k, v)]
theorem kv_val {K : PySem.W.Frag} {Z : Hp} {kvs : List (κ × V)} {eds : List (κ × D)} (r : KvR K Z kvs eds) (k : κ) : (valD eds k = none ∧ valV kvs k = none) ∨ ∃ d v, valD eds k = some d ∧ valV kvs k = some v ∧ Rp K Z v d := by
  induction r with
  | nil => exact .inl ⟨rfl, rfl⟩
  | @cons p q ps qs h1 h2 ih =>
    obtain ⟨e, r1⟩ := h1
    by_cases hk : p.1 = k
    · refine .inr ⟨q.2, p.2, ?_, ?_, r1⟩
      · unfold valD; rw [List.find?_cons]; simp [← e, hk]
      · unfold valV; rw [List.find?_cons]; simp [hk]
    · have e1 : valD (q :: qs) k = valD qs k := by unfold valD; rw [List.find?_cons]; simp [← e, hk]
      have e2 : valV (p :: ps) k = valV ps k := by unfold valV; rw [List.find?_cons]; simp [hk]
      rw [e1, e2]
      exact ih
theorem kv_any {K : PySem.W.Frag} {Z : Hp} {kvs : List (κ × V)} {eds : List (κ × D)} (r : KvR K Z kvs eds) (k : κ) : (kvs.any fun kv => decide (kv.1 = k)) = (eds.any fun kv => decide (kv.1 = k)) := by
  induction r with
  | nil => rfl
  | cons h1 h2 ih => rw [List.any_cons, List.any_cons, ih, h1.1]
theorem kv_upd {K : PySem.W.Frag} {Z : Hp} (k : κ) {v : V} {d : D} (rv : Rp K Z v d) {kvs : List (κ × V)} {eds : List (κ × D)} (r : KvR K Z kvs eds) : KvR K Z (kvs.map (fun kv => if kv.1 = k then (kv.1, v) else kv)) (eds.map (fun kv => if kv.1 = k then (kv.1, d) else kv)) := by
  induction r with
  | nil => exact .nil
  | @cons p q ps qs h1 h2 ih =>
    refine .cons ?_ ih
    obtain ⟨p1, p2⟩ := p
    obtain ⟨q1, q2⟩ := q
    obtain ⟨e, r1⟩ := h1
    have e : p1 = q1 := e
    subst e
    dsimp only
    split
    · exact ⟨rfl, rv⟩
    · exact ⟨rfl, r1⟩
theorem kv_app {K : PySem.W.Frag} {Z : Hp} (k : κ) {v : V} {d : D} (rv : Rp K Z v d) {kvs : List (κ × V)} {eds : List (κ × D)} (r : KvR K Z kvs eds) : KvR K Z (kvs ++ [(k, v)]) (eds ++ [(k, d)]) := by
  induction r with
  | nil => exact .cons ⟨rfl, rv⟩ .nil
  | cons h1 h2 ih => exact .cons h1 ih
theorem kv_put {K : PySem.W.Frag} {Z : Hp} {kvs : List (κ × V)} {eds : List (κ × D)} (r : KvR K Z kvs eds) (k : κ) {v : V} {d : D} (rv : Rp K Z v d) : KvR K Z (putK kvs k v) (putD eds k d) := by
  unfold putK putD
  rw [kv_any r k]
  split
  · exact kv_upd k rv r
  · exact kv_app k rv r
theorem kv_length {K : PySem.W.Frag} {Z : Hp} {kvs : List (κ × V)} {eds : List (κ × D)} (r : KvR K Z kvs eds) : kvs.length = eds.length := Paired.length r
end
theorem keyOf_v {K : PySem.W.Frag} {Z : Hp} {v : V} {d : D} {k : Key} (r : Rp K Z v d) (h : keyOf d = some k) : v = kV k := by
  unfold keyOf at h
  split at h
  · cases h; cases r; rfl
  · cases h; cases r; rfl
  · cases h
theorem keysOf_v {K : PySem.W.Frag} {Z : Hp} : ∀ {vs : List V} {ds : List D} {ks : List Key}, RpAll K Z vs ds → keysOf ds = some ks → vs = ks.map kV
  | _, [], _, r, h => by cases h; cases r; rfl
  | _, d :: ds, ks, r, h => by
    unfold keysOf at h
    split at h
    · cases h
      cases r with
      | cons r1 r2 => rw [keyOf_v r1 ‹_›, keysOf_v r2 ‹_›]; rfl
    · cases h
/-- a look: none where the key is of another kind -/
def dGet : Ct → D → Option (Option D)
  | .dk kvs, k => (keyOf k).map (valD kvs)
  | .dt kvs, k => (tkOf k).map (valD kvs)
  | _, _ => none
def dPut : Ct → D → D → Option Ct
  | .dk kvs, k, d => if kvs.length < 16000000 then (keyOf k).map fun k => .dk (putD kvs k d) else none
  | .dt kvs, k, d => if kvs.length < 16000000 then (tkOf k).map fun k => .dt (putD kvs k d) else none
  | _, _, _ => none
section
variable {K : PySem.W.Frag} {Z H : Hp} {a : Addr} {o : HO} {c : Ct} {y : V} {k : D}
theorem dGet_v (ho : H a = some o) (e : Same Z H) (r : CtR K Z o c) (ry : Rp K Z y k) {x : Option D} (h : dGet c k = some x) : ∃ xv : Option V, DGet H a y xv ∧ ((x = none ∧ xv = none) ∨ ∃ d v, x = some d ∧ xv = some v ∧ Rp K Z v d) := by
  unfold dGet at h
  split at h
  · rename_i kvs
    cases q : keyOf k with
    | none => rw [q] at h; cases h
    | some kk =>
      rw [q] at h
      cases h
      cases o with
      | dK vs => rw [keyOf_v ry q]; exact ⟨_, DGet.k ho, (kv_val (show KvR K Z vs kvs from r) kk)⟩
      | _ => exact r.elim
  · rename_i kvs
    cases q : tkOf k with
    | none => rw [q] at h; cases h
    | some kk =>
      rw [q] at h
      cases h
      unfold tkOf at q
      split at q
      · rename_i ds
        cases ry with
        | tup h1 h2 =>
          rw [keysOf_v h2 q] at h1
          cases o with
          | dT vs => exact ⟨_, DGet.t ho (e _ _ h1), (kv_val (show KvR K Z vs kvs from r) kk)⟩
          | _ => exact r.elim
      · cases q
  · cases h
theorem dPut_v (ho : H a = some o) (e : Same Z H) (r : CtR K Z o c) (ry : Rp K Z y k) {d : D} {v : V} (rv : Rp K Z v d) {c' : Ct} (h : dPut c k d = some c') : ∃ o', DPut H a y v (upd H a o') ∧ CtR K Z o' c' := by
  unfold dPut at h
  split at h
  · rename_i kvs
    split at h
    · rename_i hl
      cases q : keyOf k with
      | none => rw [q] at h; cases h
      | some kk =>
        rw [q] at h
        cases h
        cases o with
        | dK vs =>
          rw [keyOf_v ry q]
          have r' : KvR K Z vs kvs := r
          exact ⟨_, DPut.k ho (by rw [kv_length r']; exact lim_lt hl), kv_put r' kk rv⟩
        | _ => exact r.elim
    · cases h
  · rename_i kvs
    split at h
    · rename_i hl
      cases q : tkOf k with
      | none => rw [q] at h; cases h
      | some kk =>
        rw [q] at h
        cases h
        unfold tkOf at q
        split at q
        · rename_i ds
          cases ry with
          | tup h1 h2 =>
            rw [keysOf_v h2 q] at h1
            cases o with
            | dT vs =>
              have r' : KvR K Z vs kvs := r
              exact ⟨_, DPut.t ho (e _ _ h1) (by rw [kv_length r']; exact lim_lt hl), kv_put r' kk rv⟩
            | _ => exact r.elim
        · cases q
    · cases h
  · cases h
end
def isDic (s : Option Sl) : Bool := match s with
  | some (.ow _ (.dk _)) => true
  | some (.ow _ (.dt _)) => true
  | _ => false
def vaDic (ρ : Rho) : Va → Bool
  | .rf i => isDic ρ[i]?
  | _ => false
@[simp] theorem vaDic_pu (ρ : Rho) (d : D) : vaDic ρ (.pu d) = false := rfl
def ctOf (ρ : Rho) : Va → Option Ct
  | .rf i => match ρ[i]? with
    | some (.ow _ c) => some c
    | _ => none
  | _ => none
/-! .. {} -/
def oNewK : O Rs := fun ρ => .ok (.nw (.dk [])) ρ
def oNewT : O Rs := fun ρ => .ok (.nw (.dt [])) ρ
section
variable {X : Cx} {G : Gm} {B : Wish} {pos : Pos}
theorem rd_newK : RD X G B (.Dict [] [] pos) oNewK := pe_imp pe_dnewK fun σ H Q ⟨Z, ρ, S, p⟩ q hq =>
  p.fin S (.loose S.zh hq _) ⟨q, .dK [], rfl, hq, S.fresh hq, upd_same, (show KvR X.K Z [] [] from .nil)⟩
theorem rd_newT : RD X G B (.Dict [] [] pos) oNewT := pe_imp pe_dnewT fun σ H Q ⟨Z, ρ, S, p⟩ q hq =>
  p.fin S (.loose S.zh hq _) ⟨q, .dT [], rfl, hq, S.fresh hq, upd_same, (show KvR X.K Z [] [] from .nil)⟩
end
/-! .. a[b], a in b, whatever stands there -/
def dix1 (a b : Va) (ρ : Rho) : M Rs := match ctOf ρ a, rdV ρ b with
  | some c, some k => match dGet c k with
    | some (some d) => .ok (.pu d) ρ
    | _ => .st
  | _, _ => .st
def ixA1 (a b : Va) (ρ : Rho) : M Rs := if vaDic ρ a = true then dix1 a b ρ else bin1 fIx a b ρ
@[simp] theorem ixA1_pu (a : D) (b : Va) (ρ : Rho) : ixA1 (.pu a) b ρ = bin1 fIx (.pu a) b ρ := rfl
def oIxA (oa ob : O Va) : O Rs := fun ρ => (oa ρ).bind fun a ρ1 => (ob ρ1).bind fun b ρ2 => ixA1 a b ρ2
def din1 (neg : Bool) (a b : Va) (ρ : Rho) : M Rs := match rdV ρ a, ctOf ρ b with
  | some k, some c => match dGet c k with
    | some o => .ok (.pu (.bool (if neg then !o.isSome else o.isSome))) ρ
    | none => .st
  | _, _ => .st
def inA1 (neg : Bool) (a b : Va) (ρ : Rho) : M Rs := if vaDic ρ b = true then din1 neg a b ρ else bin1 (fIn neg) a b ρ
@[simp] theorem inA1_pu (neg : Bool) (a : Va) (b : D) (ρ : Rho) : inA1 neg a (.pu b) ρ = bin1 (fIn neg) a (.pu b) ρ := rfl
def oInA (neg : Bool) (oa ob : O Va) : O Rs := fun ρ => (oa ρ).bind fun a ρ1 => (ob ρ1).bind fun b ρ2 => inA1 neg a b ρ2
section
variable {X : Cx} {G : Gm} {B : Wish} {a b : Expr} {pos : Pos} {oa ob : O Va}
theorem ctOf_at {K : PySem.W.Frag} {Z : Hp} {ρ : Rho} {σ : St} {H : Hp} {v : V} {x : Va} {c : Ct} (S : Sim K G Z ρ σ H) {ρ' : Rho} {H' : Hp} (r : VaR K Z ρ' σ H' v x) (h : ctOf ρ x = some c) : ∃ ad o, v = .ref ad ∧ H ad = some o ∧ CtR K Z o c := by
  cases x with
  | pu d => cases h
  | rf i =>
    unfold ctOf at h
    dsimp only at h
    split at h
    · rename_i p c' hr
      cases h
      obtain ⟨ad, o, q, ho, rc, _⟩ := S.ow i p _ hr
      have r : σ[i]? = some (some v) := r
      rw [q] at r
      cases r
      exact ⟨ad, o, rfl, ho, rc⟩
    · cases h
/-- two operands, then one of two rules, as they turn out -/
theorem run_two {K : PySem.W.Frag} {R1 R2' : L2.R2} {f1 f2 : Va → Va → Rho → M Rs} {t : Rho → Va → Va → Bool} {σ : St} {H : Hp} {Q : VK}
    (h1 : ∀ σ Z H ρ x y a b Q, Sim K G Z ρ σ H → VaR K Z ρ σ H x a → VaR K Z ρ σ H y b → t ρ a b = true → Post K G B (RsR K G) σ Z (f1 a b ρ) Q → R1 x y H Q)
    (h2 : ∀ σ Z H ρ x y a b Q, Sim K G Z ρ σ H → VaR K Z ρ σ H x a → VaR K Z ρ σ H y b → t ρ a b = false → Post K G B (RsR K G) σ Z (f2 a b ρ) Q → R2' x y H Q)
    (w : Run K G B (RsR K G) (fun ρ => (oa ρ).bind fun a ρ1 => (ob ρ1).bind fun b ρ2 => if t ρ2 a b = true then f1 a b ρ2 else f2 a b ρ2) σ H Q) :
    tOp R1 (Run K G B (VaR K) oa) (Run K G B (VaR K) ob) σ H Q ∨ tOp R2' (Run K G B (VaR K) oa) (Run K G B (VaR K) ob) σ H Q := by
  obtain ⟨Z, ρ, S, p⟩ := w
  have p : Post K G B (RsR K G) σ Z ((oa ρ).bind fun a ρ1 => (ob ρ1).bind fun b ρ2 => if t ρ2 a b = true then f1 a b ρ2 else f2 a b ρ2) Q := p
  cases ha : oa ρ with
  | st => rw [ha] at p; exact p.elim
  | ex x ρ1 => rw [ha] at p; exact .inl ⟨Z, ρ, S, by rw [ha]; exact p⟩
  | ok a ρ1 =>
    rw [ha] at p
    have p : Post K G B (RsR K G) σ Z ((ob ρ1).bind fun b ρ2 => if t ρ2 a b = true then f1 a b ρ2 else f2 a b ρ2) Q := p
    cases hb : ob ρ1 with
    | st => rw [hb] at p; exact p.elim
    | ex x ρ2 =>
      rw [hb] at p
      refine .inl ⟨Z, ρ, S, ?_⟩
      rw [ha]
      intro x Z1 H1 e1 S1 r1
      refine ⟨Z1, ρ1, S1, ?_⟩
      rw [hb]
      exact fun Z2 H2 e2 S2 => p Z2 H2 (e1.trans e2) S2
    | ok b ρ2 =>
      rw [hb] at p
      have p : Post K G B (RsR K G) σ Z (if t ρ2 a b = true then f1 a b ρ2 else f2 a b ρ2) Q := p
      have mono : ∀ {Z1 : Hp} {m : M Rs}, Same Z Z1 → Post K G B (RsR K G) σ Z m Q → Post K G B (RsR K G) σ Z1 m Q := fun {Z1 m} e h => by
        cases m with
        | st => exact h
        | ok r ρ3 => exact fun v Z' H' e' => h v Z' H' (e.trans e')
        | ex x ρ3 => exact fun Z' H' e' => h Z' H' (e.trans e')
      cases ht : t ρ2 a b with
      | true =>
        rw [ht, if_pos rfl] at p
        refine .inl ⟨Z, ρ, S, ?_⟩
        rw [ha]
        intro x Z1 H1 e1 S1 r1
        refine ⟨Z1, ρ1, S1, ?_⟩
        rw [hb]
        intro y Z2 H2 e2 S2 r2
        exact h1 σ Z2 H2 ρ2 x y a b Q S2 (VaR.mono r1 e2) r2 ht (mono (e1.trans e2) p)
      | false =>
        rw [ht, if_neg Bool.false_ne_true] at p
        refine .inr ⟨Z, ρ, S, ?_⟩
        rw [ha]
        intro x Z1 H1 e1 S1 r1
        refine ⟨Z1, ρ1, S1, ?_⟩
        rw [hb]
        intro y Z2 H2 e2 S2 r2
        exact h2 σ Z2 H2 ρ2 x y a b Q S2 (VaR.mono r1 e2) r2 ht (mono (e1.trans e2) p)
theorem rd_ixA {k : Nat} (hr : Room k X.A) (ha : ED X G B a oa) (hb : ED X G B b ob) (hs : PlainIx b := by exact fun _ _ => rfl) (hs' : NoSl b := by exact fun _ _ => rfl) : RD X G B (.Subscript a b pos) (oIxA oa ob) := by
  refine pe_imp (pe_alt (pe_dget (hu_of hr) ha hb hs') (pe_ix ix_seq ha hb hs)) fun σ H Q w => ?_
  refine run_two (R1 := fun x y H Q => ∃ ad v, x = .ref ad ∧ DGet H ad y (some v) ∧ Q v H) (R2' := rIx X.K) (f1 := dix1) (f2 := bin1 fIx) (t := fun ρ a b => vaDic ρ a) ?_ ?_ w
  · intro σ Z H ρ x y a b Q S r1 r2 _ p
    unfold dix1 at p
    split at p
    · rename_i c kd hc hk
      split at p
      · rename_i d hd
        obtain ⟨ad, o, rfl, ho, rc⟩ := ctOf_at S r1 hc
        have rk : Rp X.K Z y kd := (S.rdb r2 hk).keptD fun ds e => by subst e; cases c <;> cases hd
        obtain ⟨xv, g, q⟩ := dGet_v ho S.zh rc rk hd
        rcases q with ⟨e, _⟩ | ⟨d', v, e, rfl, rv⟩
        · cases e
        · cases e
          exact ⟨ad, v, rfl, g, p.fin S (.refl S.zh) rv⟩
      · exact p.elim
    · exact p.elim
  · intro σ Z H ρ x y a b Q S r1 r2 _ p
    exact bin1_run binS_ix S r1 r2 p
theorem rd_inA {k : Nat} (hr : Room k X.A) (ha : ED X G B a oa) (hb : ED X G B b ob) (hm : behindInMarks .In b = false := by rfl) : RD X G B (.Compare a [.In] [b] pos) (oInA false oa ob) := by
  refine pe_imp (pe_alt (pe_cmp (pc_din (hu_of hr) ha hb) hm) (pe_cmpR op_inAll ha hb hm)) fun σ H Q w => ?_
  refine run_two (R1 := fun y x H Q => ∃ ad o, x = .ref ad ∧ DGet H ad y o ∧ Q (.bl o.isSome) H) (R2' := rInAll X.K false) (f1 := din1 false) (f2 := bin1 (fIn false)) (t := fun ρ a b => vaDic ρ b) ?_ ?_ w
  · intro σ Z H ρ y x a b Q S r1 r2 _ p
    unfold din1 at p
    split at p
    · rename_i kd c hk hc
      split at p
      · rename_i o hd
        obtain ⟨ad, ob, rfl, ho, rc⟩ := ctOf_at S r2 hc
        have rk : Rp X.K Z y kd := (S.rdb r1 hk).keptD fun ds e => by subst e; cases c <;> cases hd
        obtain ⟨xv, g, q⟩ := dGet_v ho S.zh rc rk hd
        refine ⟨ad, xv, rfl, g, ?_⟩
        rcases q with ⟨rfl, rfl⟩ | ⟨d', v, rfl, rfl, rv⟩
        · exact p.fin S (.refl S.zh) (.bl _)
        · exact p.fin S (.refl S.zh) (.bl _)
      · exact p.elim
    · exact p.elim
  · intro σ Z H ρ x y a b Q S r1 r2 _ p
    exact bin1_run binS_in S r1 r2 p
theorem rd_notinA {k : Nat} (hr : Room k X.A) (ha : ED X G B a oa) (hb : ED X G B b ob) (hm : behindInMarks .NotIn b = false := by rfl) : RD X G B (.Compare a [.NotIn] [b] pos) (oInA true oa ob) := by
  refine pe_imp (pe_alt (pe_cmp (pc_dnotin (hu_of hr) ha hb) hm) (pe_cmpR op_notInAll ha hb hm)) fun σ H Q w => ?_
  refine run_two (R1 := fun y x H Q => ∃ ad o, x = .ref ad ∧ DGet H ad y o ∧ Q (.bl (!o.isSome)) H) (R2' := rInAll X.K true) (f1 := din1 true) (f2 := bin1 (fIn true)) (t := fun ρ a b => vaDic ρ b) ?_ ?_ w
  · intro σ Z H ρ y x a b Q S r1 r2 _ p
    unfold din1 at p
    split at p
    · rename_i kd c hk hc
      split at p
      · rename_i o hd
        obtain ⟨ad, ob, rfl, ho, rc⟩ := ctOf_at S r2 hc
        have rk : Rp X.K Z y kd := (S.rdb r1 hk).keptD fun ds e => by subst e; cases c <;> cases hd
        obtain ⟨xv, g, q⟩ := dGet_v ho S.zh rc rk hd
        refine ⟨ad, xv, rfl, g, ?_⟩
        rcases q with ⟨rfl, rfl⟩ | ⟨d', v, rfl, rfl, rv⟩
        · exact p.fin S (.refl S.zh) (.bl _)
        · exact p.fin S (.refl S.zh) (.bl _)
      · exact p.elim
    · exact p.elim
  · intro σ Z H ρ x y a b Q S r1 r2 _ p
    exact bin1_run binS_in S r1 r2 p
theorem td_rdc {o : O Rs} {op : CmpOp} (h : RD X G B (.Compare a [op] [b] pos) o) (he : ∀ whole, isTrue (.Compare a [op] [b] pos) X.env whole = (do let v ← whole; standAt (Expr.Compare a [op] [b] pos).pos; holding [v] (truthy v)) := by intro _; rfl) : TD X G B (.Compare a [op] [b] pos) (oTst o) := td_rd h he
end
/-! .. d[k] = e, xs[i] = e -/
theorem ps_alt {X : Cx} {e : Stmt} {t t' : TS} (h : PS X e t) (h' : PS X e t') : PS X e (fun D σ H => t D σ H ∨ t' D σ H) := ⟨fun pins s σ H D I w => w.elim (h.run pins s σ H D I) (h'.run pins s σ H D I)⟩
def stD1 (k : Nat) (d i : D) (ρ : Rho) : Mo := match ρ[k]? with
  | some (.ow p c) => match dPut c i d with
    | some c' => .nx (ρ.set k (.ow p c'))
    | none => .st
  | _ => .st
def oStD (k : Nat) (ov oi : O D) : Os := fun ρ => (ov ρ).bindS fun d ρ1 => match ρ1[k]? with
  | some (.ow _ _) => (oi ρ1).bindS fun i ρ2 => stD1 k d i ρ2
  | _ => .st
def oStA (k : Nat) (ov oi : O D) : Os := fun ρ => if isDic ρ[k]? = true then oStD k ov oi ρ else oStL k ov oi ρ
section
variable {X : Cx} {G : Gm} {B : Wish} {e o ix : Expr} {pos pos' tpos npos : Pos} {x : Str}
theorem sd_stD (k : Nat) {kr : Nat} {ov oi : O D} (hr : Room kr X.A) (hv : PD X G B e ov) (hi : PD X G B ix oi)
    (hN : X.N[k]? = some x := by rfl) (hvis : Vis X.env.scope x := by first | exact Or.inl rfl | exact Or.inr (Or.inl rfl) | exact Or.inr (Or.inr rfl)) (hd : (x == ("__debug__" : Str)) = false := by decide)
    (hcd : (x == ("__classdict__" : Str)) = false := by decide) (hs : swapsWith e (some (.Subscript (.Name x npos) ix pos')) pos.line X.env = pure false := by rfl) : SD X G B (.Assign [.Subscript (.Name x npos) ix pos'] e pos) (oStD k ov oi) :=
  ps_imp (ps_dput (hu_of hr) (pe_var (i := k) hN hvis hd hcd) hi hv hs) fun D σ H w => runS_bind (C := fun v H1 => tVar k σ H1 fun x H2 => Run X.K G B (PuR X.K) oi σ H2 fun y H3 => ∃ a H4, x = .ref a ∧ DPut H3 a y v H4 ∧ D.nx σ H4) w fun v d ρ1 Z1 H1 S1 rv p1 => by
    split at p1
    · rename_i p c h
      obtain ⟨a, ob, q, ho, r1, z, _⟩ := S1.ow k _ _ h
      refine ⟨_, q, Z1, ρ1, S1, PostS.bind p1 fun iv di ρ2 Z2 H2 e2 S2 r2 p2 => ?_⟩
      unfold stD1 at p2
      split at p2
      · rename_i p' c' h'
        split at p2
        · rename_i c2 hc
          obtain ⟨a2, o2, q2, ho2, r2', z2, _⟩ := S2.ow k _ _ h'
          rw [q] at q2
          cases q2
          obtain ⟨o', g, rc⟩ := dPut_v ho2 S2.zh r2' r2 (Rp.mono rv e2) hc
          exact ⟨a, _, rfl, g, p2 σ Z2 _ (.refl _) (S2.write h' q rc)⟩
        · exact p2.elim
      · exact p2.elim
    · exact p1.elim
theorem sd_stA (k : Nat) {kr : Nat} {ov oi : O D} (hr : Room kr X.A) (hv : PD X G B e ov) (hi : PD X G B ix oi)
    (hN : X.N[k]? = some x := by rfl) (hvis : Vis X.env.scope x := by first | exact Or.inl rfl | exact Or.inr (Or.inl rfl) | exact Or.inr (Or.inr rfl)) (hd : (x == ("__debug__" : Str)) = false := by decide)
    (hcd : (x == ("__classdict__" : Str)) = false := by decide) (hs : swapsWith e (some (.Subscript (.Name x npos) ix pos')) pos.line X.env = pure false := by rfl)
    (ha : ∀ v, assign (.Subscript (.Name x npos) ix pos') X.env v = (do
      let ov ← holding [v] (eval (.Name x npos) X.env)
      let iv ← holding [v, ov] (eval ix X.env)
      standAt pos'
      holding [v, ov, iv] (setItem ov iv v)
      release [v, ov, iv] []) := by intro _; rfl)
    (hs1 : swapsWithSole [.Subscript (.Name x npos) ix pos'] e pos.line X.env = pure false := by rfl) (hw : swappedStores [.Subscript (.Name x npos) ix pos'] e X.env = pure none := by rfl)
    (h1 : (assignEach [.Subscript (.Name x npos) ix pos'] X.env).map (·.2) = [assign (.Subscript (.Name x npos) ix pos') X.env] := by rfl) :
    SD X G B (.Assign [.Subscript (.Name x npos) ix pos'] e pos) (oStA k ov oi) :=
  ps_imp (ps_alt (sd_stD k hr hv hi hN hvis hd hcd hs) (sd_stL k hv hi hN hvis hd hcd ha hs1 hw h1)) fun D σ H ⟨Z, ρ, S, p⟩ => by
    unfold oStA at p
    split at p
    · exact .inl ⟨Z, ρ, S, p⟩
    · exact .inr ⟨Z, ρ, S, p⟩
end
/-! .. d.get(k), d.get(k, x) -/
def get1 (dfl : D) (a b : Va) (ρ : Rho) : M Rs := match ctOf ρ a, rdV ρ b with
  | some c, some k => match dGet c k with
    | some o => .ok (.pu (o.getD dfl)) ρ
    | none => .st
  | _, _ => .st
def get2 (dfl a b : Va) (ρ : Rho) : M Rs := match dfl with
  | .pu d => get1 d a b ρ
  | _ => .st
def kDic (a : Va) (ρ : Rho) (m : M Rs) : M Rs := if vaDic ρ a = true then m else .st
def oGet1 (oa ob : O Va) : O Rs := fun ρ => (oa ρ).bind fun a ρ1 => kDic a ρ1 ((ob ρ1).bind fun b ρ2 => get1 .none a b ρ2)
def oGet2 (oa ob : O Va) (oc : O D) : O Rs := fun ρ => (oa ρ).bind fun a ρ1 => kDic a ρ1 ((ob ρ1).bind fun b ρ2 => (oc ρ2).bind fun c ρ3 => get1 c a b ρ3)
theorem isDic_at {K : PySem.W.Frag} {G : Gm} {Z : Hp} {ρ : Rho} {σ : St} {H : Hp} {v : V} {x : Va} (S : Sim K G Z ρ σ H) {ρ' : Rho} {H' : Hp} (r : VaR K Z ρ' σ H' v x) (h : vaDic ρ x = true) : ∃ ad, v = .ref ad ∧ IsD H ad := by
  cases x with
  | pu d => cases h
  | rf i =>
    have h : isDic ρ[i]? = true := h
    have r : σ[i]? = some (some v) := r
    unfold isDic at h
    split at h
    · rename_i p kvs hr
      obtain ⟨ad, o, q, ho, rc, _⟩ := S.ow i p _ hr
      rw [q] at r
      cases r
      cases o with
      | dK vs => exact ⟨ad, rfl, .inl ⟨vs, .of ho⟩⟩
      | _ => exact rc.elim
    · rename_i p kvs hr
      obtain ⟨ad, o, q, ho, rc, _⟩ := S.ow i p _ hr
      rw [q] at r
      cases r
      cases o with
      | dT vs => exact ⟨ad, rfl, .inr ⟨vs, .of ho⟩⟩
      | _ => exact rc.elim
    · cases h
theorem pu_rp {K : PySem.W.Frag} {Z H : Hp} {ρ : Rho} {σ : St} {v : V} {x : Va} {d : D} {G : Gm} (S : Sim K G Z ρ σ H) (r : VaR K Z ρ σ H v x) (h : rdV ρ x = some d) {c : Ct} {o : Option D} (hd : dGet c d = some o) : Rp K Z v d :=
  (S.rdb r h).keptD fun ds e => by subst e; cases c <;> cases hd
section
variable {X : Cx} {G : Gm} {B : Wish} {oa ob : O Va}
theorem get1_run {σ : St} {Z H : Hp} {ρ : Rho} {x y : V} {a b : Va} {Q : VK} {dfl : D} {dv : V} (S : Sim X.K G Z ρ σ H) (r1 : VaR X.K Z ρ σ H x a) (r2 : VaR X.K Z ρ σ H y b) (rd : Rp X.K Z dv dfl) (p : Post X.K G B (RsR X.K G) σ Z (get1 dfl a b ρ) Q) : ∃ ad o, x = .ref ad ∧ DGet H ad y o ∧ Q (o.getD dv) H := by
  unfold get1 at p
  split at p
  · rename_i c kd hc hk
    split at p
    · rename_i o hd
      obtain ⟨ad, ob, rfl, ho, rc⟩ := ctOf_at S r1 hc
      obtain ⟨xv, g, q⟩ := dGet_v ho S.zh rc (pu_rp S r2 hk hd) hd
      refine ⟨ad, xv, rfl, g, ?_⟩
      rcases q with ⟨rfl, rfl⟩ | ⟨d', v, rfl, rfl, rv⟩
      · exact p.fin S (.refl S.zh) rd
      · exact p.fin S (.refl S.zh) rv
    · exact p.elim
  · exact p.elim
end
end Ow
namespace Ow
open PySem L2
/-! ### a text so many times -/
def repT (x : Str) (n : Int) : Str := Txt.mul x n
abbrev rMulS : R2 := fun x y H Q => ∃ a n, x = V.str a ∧ y = V.int n ∧ MulOk a n ∧ Q (V.str (Txt.mul a n)) H
theorem op_mulS {X : Cx} : OpR X (binaryOp .Mult) rMulS := by
  intro pins s σ H x y v u Q I rx ry h
  obtain ⟨i, j, rfl, rfl, hz, q⟩ := h
  obtain ⟨t, rfl⟩ := rx
  obtain ⟨t', rfl⟩ := ry
  exact SB.mul hz (fun t' tk => ⟨.str (Txt.mul i j), H, I.tok _, ⟨_, rfl⟩, q⟩)
def mulSok (a : Str) (n : Int) : Bool := decide (-1000000 < n ∧ n < 1000000 ∧ a.length * n.toNat ≤ 16000000)
theorem mulSok_c {a : Str} {n : Int} (h : mulSok a n = true) : MulOk a n := by
  unfold mulSok at h
  obtain ⟨h1, h2, h3⟩ := of_decide_eq_true h
  refine ⟨?_, fun h4 _ => ?_, fun _ _ => ?_⟩
  · rw [Bool.or_eq_false_iff]
    exact ⟨decide_eq_false (by omega), decide_eq_false (by omega)⟩
  · intro h5
    have h6 : (a.length : Int) ≤ (2 ^ 63 - 1) / n := by
      rw [Int.le_ediv_iff_mul_le (by omega)]
      have h7 : (a.length : Int) * n = ((a.length * n.toNat : Nat) : Int) := by
        rw [Int.natCast_mul, Int.toNat_of_nonneg (by omega)]
      rw [h7]
      omega
    omega
  · unfold Builtin.Str.tooLong
    exact decide_eq_false (Nat.not_lt.mpr (lim_le h3))
def fMulX : D → D → Option Rs
  | .str a, .int n => if mulSok a n = true then some (.pu (.str (repT a n))) else none
  | a, b => fMul a b
theorem binS_mulX {K : PySem.W.Frag} : BinS K (fun x y H Q => rMulS x y H Q ∨ rMulAll x y H Q) fMulX := by
  intro x y dx dy R Z H Q e rx ry hf k
  unfold fMulX at hf
  split at hf
  · split at hf
    · cases hf
      exact .inl ⟨_, _, rx.str, ry.int, mulSok_c ‹_›, k _ Z H (.refl e) (.str _)⟩
    · cases hf
  · exact .inr (binS_mul x y _ _ R Z H Q e rx ry hf k)
/-! ### int(x), also of a text -/
def fIntX : List D → Option Rs
  | [.str a] => if a.length ≤ 640 then (PySem.intText? a).map fun n => .pu (.int n) else none
  | ds => fInt1 ds
theorem callS_intX {K : PySem.W.Frag} {r : List V → Hp → VK → Prop} (h : CallS K r fInt1) : CallS K (fun xs H Q => (∃ a n, xs = [.str a] ∧ PySem.intText? a = some n ∧ a.length ≤ 640 ∧ Q (.int n) H) ∨ r xs H Q) fIntX := by
  intro vs ds R Z H Q e rv hf k
  unfold fIntX at hf
  split at hf
  · split at hf
    · rename_i a hl
      obtain ⟨v, rfl, r1⟩ := Paired.one rv
      rw [r1.str]
      cases q : PySem.intText? a with
      | none => rw [q] at hf; cases hf
      | some n =>
        rw [q] at hf
        cases hf
        exact .inl ⟨_, _, rfl, q, hl, k _ Z H (.refl e) (.int _)⟩
    · cases hf
  · exact .inr (h vs _ R Z H Q e rv hf k)
/-! ### isinstance, one built-in class -/
def tyName : D → Option String
  | .none => some "NoneType"
  | .bool _ => some "bool"
  | .int _ => some "int"
  | .str _ => some "str"
  | .list _ => some "list"
  | .tuple _ => some "tuple"
  | .dict [(.none, .list _)] => some "list"
  | .dict [(.bool true, .tuple _)] => some "tuple"
  | _ => none
theorem tyName_v {K : PySem.W.Frag} {Z H : Hp} {v : V} {d : D} {n : String} (h : tyName d = some n) (r : Rdb K Z H v d) (e : Same Z H) : TyX K H v (.type n) := by
  unfold tyName at h
  split at h
  · cases h; rcases r with r | ⟨_, _, _, _, q, _⟩
    · cases r; exact .base .non
    · cases q
  · cases h; rw [r.bl]; exact .base (.bl _)
  · cases h; rw [r.int]; exact .base (.int _)
  · cases h; rw [r.str]; exact .base (.str _)
  · cases h; obtain ⟨a, vs, rfl, ha, _⟩ := r.list e; exact .base (.lst ha)
  · cases h; obtain ⟨a, vs, rfl, ha, _⟩ := r.tup e; exact .base (.tup ha)
  · cases h
    obtain ⟨a, vs, rfl, ha, _⟩ := r.scr e
    rcases ha with (ha | ⟨o, ha⟩) | ⟨o, _, _, ho, hc, _⟩
    · exact .base (.lst ha)
    · exact .base (.frz ha)
    · exact .kList ho hc
  · cases h
    obtain ⟨a, vs, rfl, ha, _⟩ := r.kon e
    rcases ha with (ha | ⟨o, ha⟩) | ⟨o, _, _, ho, hc, _⟩
    · exact .base (.tup ha)
    · exact .fTuple ha
    · exact .kTuple ho hc
  · cases h
/-- a built-in class, its name among the program's words -/
def isi1 (T : String) (a : Va) (ρ : Rho) : M Rs := match rdV ρ a with
  | some d => match tyName d with
    | some n => match kitB n T with
      | some b => .ok (.pu (.bool b)) ρ
      | none => .st
    | none => .st
  | none => .st
def oIsi (T : String) (o : O Va) : O Rs := fun ρ => (o ρ).bind (isi1 T)
section
variable {X : Cx} {G : Gm} {B : Wish} {e : Expr} {p p2 pos : Pos} {oa : O Va} {T : String} {x : Str}
theorem rd_isi (hg : Gl X "isinstance") (hm : X.mg "isinstance" = none) (ha : ED X G B e oa) (hgT : Gl X x) (hmT : X.mg x = none) (hvT : bootBuiltins x = some (.type T)) (hnT : x ≠ "__name__" := by decide) (hdT : (x == ("__debug__" : Str)) = false := by decide)
    (he : starEach [e, .Name x p2] X.env = (false, eval e X.env) :: starEach [.Name x p2] X.env := by rfl) (he2 : starEach [.Name x p2] X.env = (false, eval (.Name x p2) X.env) :: starEach [] X.env := by rfl)
    (hpl : (backTo pos (starEach [.Name x p2] X.env)).any (·.1) = false := by rfl) (hv : bootBuiltins "isinstance" = some (.builtin "isinstance") := by rfl) : RD X G B (.Call (.Name "isinstance" p) [e, .Name x p2] [] pos) (oIsi T oa) :=
  pe_imp (pe_callB call_isi hg hm hv (pa_cons ha (pa_cons (pe_bltn (v := .ty T) hgT hmT hvT rfl hnT hdT) pa_nil he2) he) (by decide) (by decide) he hpl) fun σ H Q w => run_imp w fun v va ρ1 Z1 H1 S1 r1 p1 => by
    unfold isi1 at p1
    split at p1
    · rename_i d hd
      split at p1
      · rename_i n hn
        split at p1
        · rename_i b hb
          exact ⟨v, .ty T, .type n, .type T, b, rfl, .ty T, tyName_v hn (S1.rdb r1 hd) S1.zh, kit_ty hb, p1.fin S1 (.refl S1.zh) (.bl _)⟩
        · exact p1.elim
      · exact p1.elim
    · exact p1.elim
/-! ### names of the module -/
def Kn (K : PySem.W.Frag) (mg : Str → Option Value) (x : Str) (d : D) : Prop := ∃ v u, mg x = some u ∧ RelV v u ∧ ∀ Z, Rp K Z v d
theorem kn_str {K : PySem.W.Frag} {mg : Str → Option Value} {x z : Str} (h : ∃ t, mg x = some (.str z t)) : Kn K mg x (.str z) := by
  obtain ⟨t, h⟩ := h
  exact ⟨.str z, _, h, ⟨t, rfl⟩, fun Z => .str z⟩
theorem kn_int {K : PySem.W.Frag} {mg : Str → Option Value} {x : Str} {z : Int} (h : ∃ t, mg x = some (.int z t)) : Kn K mg x (.int z) := by
  obtain ⟨t, h⟩ := h
  exact ⟨.int z, _, h, ⟨t, rfl⟩, fun Z => .int z⟩
theorem kn_tup {K : PySem.W.Frag} {mg : Str → Option Value} {a : Addr} {vs : List V} {ds : List D} (h : mg x = some (.ref a)) (hs : ∀ H, SqT K H a vs) (hd : ∀ Z, RpAll K Z vs ds) : Kn K mg x (kon ds) := ⟨.ref a, _, h, rfl, fun Z => .kon (hs Z) (hd Z)⟩
theorem pd_kn {d : D} (hg : Gl X x) (h : Kn X.K X.mg x d) (hd : (x == ("__debug__" : Str)) = false := by decide) : PD X G B (.Name x pos) (oC d) := by
  obtain ⟨v, u, hm, r, hz⟩ := h
  exact pd_const (pe_glob hg hm r hd) hz
end
section
variable {X : Cx} {G : Gm} {B : Wish} {a b : Expr} {pos : Pos} {oa ob : O Va}
theorem rd_mulX (ha : ED X G B a oa) (hb : ED X G B b ob) : RD X G B (.BinOp a .Mult b pos) (oBin fMulX oa ob) := rd_bin (op_mulS.or op_mulAll) binS_mulX ha hb
end
end Ow
namespace Ow
open PySem PySem.Spec PyProof.Rows L2
/-! ### short names for the built-ins -/
section
variable {X : Cx} {G : Gm} {B : Wish} {p pos apos npos cpos : Pos} {e o : Expr} {es : List Expr} {oas : O (List Va)} {oo : O Va} {x : Str}
theorem zb_list (hg : Gl X "list") (hm : X.mg "list" = none) (ha : AD X G B (e :: es) oas) (he : starEach (e :: es) X.env = (false, eval e X.env) :: starEach es X.env := by rfl) (hpl : (backTo pos (starEach es X.env)).any (·.1) = false := by rfl) : RD X G B (.Call (.Name "list" p) (e :: es) [] pos) (oCB fList oas) :=
  rd_callTy call_list_of callS_list hg hm boot_list ha (by decide) (by decide) he hpl
theorem zb_tuple (hg : Gl X "tuple") (hm : X.mg "tuple" = none) (ha : AD X G B (e :: es) oas) (he : starEach (e :: es) X.env = (false, eval e X.env) :: starEach es X.env := by rfl) (hpl : (backTo pos (starEach es X.env)).any (·.1) = false := by rfl) : RD X G B (.Call (.Name "tuple" p) (e :: es) [] pos) (oCB fTuple oas) :=
  rd_callTy call_tuple_of callS_tuple hg hm boot_tuple ha (by decide) (by decide) he hpl
theorem zb_int (hg : Gl X "int") (hm : X.mg "int" = none) (ha : AD X G B (e :: es) oas) (he : starEach (e :: es) X.env = (false, eval e X.env) :: starEach es X.env := by rfl) (hpl : (backTo pos (starEach es X.env)).any (·.1) = false := by rfl) : RD X G B (.Call (.Name "int" p) (e :: es) [] pos) (oCB fIntX oas) :=
  rd_callTy (CallR.or call_int_str call_int1) (callS_intX callS_int) hg hm boot_int ha (by decide) (by decide) he hpl
theorem zb_str (hg : Gl X "str") (hm : X.mg "str" = none) (ha : AD X G B (e :: es) oas) (he : starEach (e :: es) X.env = (false, eval e X.env) :: starEach es X.env := by rfl) (hpl : (backTo pos (starEach es X.env)).any (·.1) = false := by rfl) : RD X G B (.Call (.Name "str" p) (e :: es) [] pos) (oCB fStr1 oas) :=
  rd_callTy call_str_int callS_str hg hm boot_str ha (by decide) (by decide) he hpl
theorem zb_abs (hg : Gl X "abs") (hm : X.mg "abs" = none) (ha : AD X G B (e :: es) oas) (he : starEach (e :: es) X.env = (false, eval e X.env) :: starEach es X.env := by rfl) (hpl : (backTo pos (starEach es X.env)).any (·.1) = false := by rfl) : RD X G B (.Call (.Name "abs" p) (e :: es) [] pos) (oCB fAbs oas) :=
  rd_callB call_abs callS_abs hg hm boot_abs ha (by decide) (by decide) he hpl
theorem zb_max2 (hc : X.calm = true) (hg : Gl X "max") (hm : X.mg "max" = none) (ha : AD X G B (e :: es) oas) (he : starEach (e :: es) X.env = (false, eval e X.env) :: starEach es X.env := by rfl) (hpl : (backTo pos (starEach es X.env)).any (·.1) = false := by rfl) : RD X G B (.Call (.Name "max" p) (e :: es) [] pos) (oCB fMax2 oas) :=
  rd_callB (call_max2 hc) callS_max2 hg hm boot_max ha (by decide) (by decide) he hpl
theorem zb_min2 (hc : X.calm = true) (hg : Gl X "min") (hm : X.mg "min" = none) (ha : AD X G B (e :: es) oas) (he : starEach (e :: es) X.env = (false, eval e X.env) :: starEach es X.env := by rfl) (hpl : (backTo pos (starEach es X.env)).any (·.1) = false := by rfl) : RD X G B (.Call (.Name "min" p) (e :: es) [] pos) (oCB fMin2 oas) :=
  rd_callB (call_min2 hc) callS_min2 hg hm boot_min ha (by decide) (by decide) he hpl
theorem zb_max1 (hc : X.calm = true) (hg : Gl X "max") (hm : X.mg "max" = none) (ha : AD X G B (e :: es) oas) (he : starEach (e :: es) X.env = (false, eval e X.env) :: starEach es X.env := by rfl) (hpl : (backTo pos (starEach es X.env)).any (·.1) = false := by rfl) : RD X G B (.Call (.Name "max" p) (e :: es) [] pos) (oCB fMax1 oas) :=
  rd_callB (cr_max hc) callS_max1 hg hm boot_max ha (by decide) (by decide) he hpl
theorem zb_min1 (hc : X.calm = true) (hg : Gl X "min") (hm : X.mg "min" = none) (ha : AD X G B (e :: es) oas) (he : starEach (e :: es) X.env = (false, eval e X.env) :: starEach es X.env := by rfl) (hpl : (backTo pos (starEach es X.env)).any (·.1) = false := by rfl) : RD X G B (.Call (.Name "min" p) (e :: es) [] pos) (oCB fMin1 oas) :=
  rd_callB (cr_min hc) callS_min1 hg hm boot_min ha (by decide) (by decide) he hpl
theorem zb_sum (hc : X.calm = true) (hg : Gl X "sum") (hm : X.mg "sum" = none) (ha : AD X G B (e :: es) oas) (he : starEach (e :: es) X.env = (false, eval e X.env) :: starEach es X.env := by rfl) (hpl : (backTo pos (starEach es X.env)).any (·.1) = false := by rfl) : RD X G B (.Call (.Name "sum" p) (e :: es) [] pos) (oCB fSum oas) :=
  rd_callB (cr_sum hc) callS_sum hg hm boot_sum ha (by decide) (by decide) he hpl
theorem zb_all (hc : X.calm = true) (hg : Gl X "all") (hm : X.mg "all" = none) (ha : AD X G B (e :: es) oas) (he : starEach (e :: es) X.env = (false, eval e X.env) :: starEach es X.env := by rfl) (hpl : (backTo pos (starEach es X.env)).any (·.1) = false := by rfl) : RD X G B (.Call (.Name "all" p) (e :: es) [] pos) (oCB fAll oas) :=
  rd_callB (cr_all hc) callS_all hg hm boot_all ha (by decide) (by decide) he hpl
theorem zb_any (hc : X.calm = true) (hg : Gl X "any") (hm : X.mg "any" = none) (ha : AD X G B (e :: es) oas) (he : starEach (e :: es) X.env = (false, eval e X.env) :: starEach es X.env := by rfl) (hpl : (backTo pos (starEach es X.env)).any (·.1) = false := by rfl) : RD X G B (.Call (.Name "any" p) (e :: es) [] pos) (oCB fAny oas) :=
  rd_callB (cr_any hc) callS_any hg hm boot_any ha (by decide) (by decide) he hpl
theorem zb_sorted (hg : Gl X "sorted") (hm : X.mg "sorted" = none) (ha : AD X G B (e :: es) oas) (he : starEach (e :: es) X.env = (false, eval e X.env) :: starEach es X.env := by rfl) (hpl : (backTo pos (starEach es X.env)).any (·.1) = false := by rfl) : RD X G B (.Call (.Name "sorted" p) (e :: es) [] pos) (oCB fSorted oas) :=
  rd_callB cr_sortedI callS_sorted hg hm boot_sorted ha (by decide) (by decide) he hpl
theorem zm_join (ho : ED X G B o oo) (ha : AD X G B (e :: es) oas)
    (hbase : attributeBase o "join" X.env (eval o X.env) = eval o X.env := by rfl)
    (hfew : ((backTo cpos (starEach (e :: es) X.env)).all (fun x => !x.1) && (backToKw cpos (keywordEach [] X.env)).all (fun x => x.1.isSome)
      && decide ((e :: es).length + ([] : List Keyword).length + (if ([] : List Keyword).isEmpty then 0 else 1) < 30)) = true := by rfl)
    (hline : (apos.endLine == cpos.line) = true := by rfl) (hs : starEach (e :: es) X.env = (false, eval e X.env) :: starEach es X.env := by rfl) (hplain : (backTo cpos (starEach es X.env)).any (·.1) = false := by rfl) :
    RD X G B (.Call (.Attribute o "join" apos) (e :: es) [] cpos) (oBM "str" fJoin oo oas) :=
  rd_bm F.plainAttrs_str F.slot_str_join F.type_str_join mt_join metS_join ho ha hbase hfew hline hs hplain
theorem zm_split (ho : ED X G B o oo) (ha : AD X G B (e :: es) oas)
    (hbase : attributeBase o "split" X.env (eval o X.env) = eval o X.env := by rfl)
    (hfew : ((backTo cpos (starEach (e :: es) X.env)).all (fun x => !x.1) && (backToKw cpos (keywordEach [] X.env)).all (fun x => x.1.isSome)
      && decide ((e :: es).length + ([] : List Keyword).length + (if ([] : List Keyword).isEmpty then 0 else 1) < 30)) = true := by rfl)
    (hline : (apos.endLine == cpos.line) = true := by rfl) (hs : starEach (e :: es) X.env = (false, eval e X.env) :: starEach es X.env := by rfl) (hplain : (backTo cpos (starEach es X.env)).any (·.1) = false := by rfl) :
    RD X G B (.Call (.Attribute o "split" apos) (e :: es) [] cpos) (oBM "str" fSplit oo oas) :=
  rd_bm F.plainAttrs_str F.slot_str_split F.type_str_split mt_split metS_split ho ha hbase hfew hline hs hplain
theorem zl_append (i : Nat) {oas : O (List D)} (ha : QD X G B (e :: es) oas)
    (hN : X.N[i]? = some x := by rfl) (hv : Vis X.env.scope x := by first | exact Or.inl rfl | exact Or.inr (Or.inl rfl) | exact Or.inr (Or.inr rfl)) (hd : (x == ("__debug__" : Str)) = false := by decide)
    (hcd : (x == ("__classdict__" : Str)) = false := by decide)
    (hbase : attributeBase (.Name x npos) "append" X.env (eval (.Name x npos) X.env) = eval (.Name x npos) X.env := by rfl)
    (hfew : ((backTo cpos (starEach (e :: es) X.env)).all (fun x => !x.1) && (backToKw cpos (keywordEach [] X.env)).all (fun x => x.1.isSome)
      && decide ((e :: es).length + ([] : List Keyword).length + (if ([] : List Keyword).isEmpty then 0 else 1) < 30)) = true := by rfl)
    (hline : (apos.endLine == cpos.line) = true := by rfl) (hs : starEach (e :: es) X.env = (false, eval e X.env) :: starEach es X.env := by rfl) (hplain : (backTo cpos (starEach es X.env)).any (·.1) = false := by rfl) :
    PD X G B (.Call (.Attribute (.Name x npos) "append" apos) (e :: es) [] cpos) (oMutK i fAppend oas) :=
  pd_mutK i F.slot_list_append F.type_list_append mt_append mutK_append ha hN hv hd hcd hbase hfew hline hs hplain
theorem zl_insert (i : Nat) {oas : O (List D)} (ha : QD X G B (e :: es) oas)
    (hN : X.N[i]? = some x := by rfl) (hv : Vis X.env.scope x := by first | exact Or.inl rfl | exact Or.inr (Or.inl rfl) | exact Or.inr (Or.inr rfl)) (hd : (x == ("__debug__" : Str)) = false := by decide)
    (hcd : (x == ("__classdict__" : Str)) = false := by decide)
    (hbase : attributeBase (.Name x npos) "insert" X.env (eval (.Name x npos) X.env) = eval (.Name x npos) X.env := by rfl)
    (hfew : ((backTo cpos (starEach (e :: es) X.env)).all (fun x => !x.1) && (backToKw cpos (keywordEach [] X.env)).all (fun x => x.1.isSome)
      && decide ((e :: es).length + ([] : List Keyword).length + (if ([] : List Keyword).isEmpty then 0 else 1) < 30)) = true := by rfl)
    (hline : (apos.endLine == cpos.line) = true := by rfl) (hs : starEach (e :: es) X.env = (false, eval e X.env) :: starEach es X.env := by rfl) (hplain : (backTo cpos (starEach es X.env)).any (·.1) = false := by rfl) :
    PD X G B (.Call (.Attribute (.Name x npos) "insert" apos) (e :: es) [] cpos) (oMutK i fInsert oas) :=
  pd_mutK i F.slot_list_insert F.type_list_insert mt_insert mutK_insert ha hN hv hd hcd hbase hfew hline hs hplain
theorem zl_extend (i : Nat) (ha : AD X G B (e :: es) oas)
    (hN : X.N[i]? = some x := by rfl) (hv : Vis X.env.scope x := by first | exact Or.inl rfl | exact Or.inr (Or.inl rfl) | exact Or.inr (Or.inr rfl)) (hd : (x == ("__debug__" : Str)) = false := by decide)
    (hcd : (x == ("__classdict__" : Str)) = false := by decide)
    (hbase : attributeBase (.Name x npos) "extend" X.env (eval (.Name x npos) X.env) = eval (.Name x npos) X.env := by rfl)
    (hfew : ((backTo cpos (starEach (e :: es) X.env)).all (fun x => !x.1) && (backToKw cpos (keywordEach [] X.env)).all (fun x => x.1.isSome)
      && decide ((e :: es).length + ([] : List Keyword).length + (if ([] : List Keyword).isEmpty then 0 else 1) < 30)) = true := by rfl)
    (hline : (apos.endLine == cpos.line) = true := by rfl) (hs : starEach (e :: es) X.env = (false, eval e X.env) :: starEach es X.env := by rfl) (hplain : (backTo cpos (starEach es X.env)).any (·.1) = false := by rfl) :
    PD X G B (.Call (.Attribute (.Name x npos) "extend" apos) (e :: es) [] cpos) (oMut i fExtend oas) :=
  pd_mut i F.slot_list_extend F.type_list_extend mt_extend mutS_extend ha hN hv hd hcd hbase hfew hline hs hplain
theorem zl_popAt (i : Nat) (ha : AD X G B (e :: es) oas)
    (hN : X.N[i]? = some x := by rfl) (hv : Vis X.env.scope x := by first | exact Or.inl rfl | exact Or.inr (Or.inl rfl) | exact Or.inr (Or.inr rfl)) (hd : (x == ("__debug__" : Str)) = false := by decide)
    (hcd : (x == ("__classdict__" : Str)) = false := by decide)
    (hbase : attributeBase (.Name x npos) "pop" X.env (eval (.Name x npos) X.env) = eval (.Name x npos) X.env := by rfl)
    (hfew : ((backTo cpos (starEach (e :: es) X.env)).all (fun x => !x.1) && (backToKw cpos (keywordEach [] X.env)).all (fun x => x.1.isSome)
      && decide ((e :: es).length + ([] : List Keyword).length + (if ([] : List Keyword).isEmpty then 0 else 1) < 30)) = true := by rfl)
    (hline : (apos.endLine == cpos.line) = true := by rfl) (hs : starEach (e :: es) X.env = (false, eval e X.env) :: starEach es X.env := by rfl) (hplain : (backTo cpos (starEach es X.env)).any (·.1) = false := by rfl) :
    PD X G B (.Call (.Attribute (.Name x npos) "pop" apos) (e :: es) [] cpos) (oMut i fPopAt oas) :=
  pd_mut i F.slot_list_pop F.type_list_pop mt_popAt mutS_popAt ha hN hv hd hcd hbase hfew hline hs hplain
theorem zl_pop (i : Nat)
    (hN : X.N[i]? = some x := by rfl) (hv : Vis X.env.scope x := by first | exact Or.inl rfl | exact Or.inr (Or.inl rfl) | exact Or.inr (Or.inr rfl)) (hd : (x == ("__debug__" : Str)) = false := by decide)
    (hcd : (x == ("__classdict__" : Str)) = false := by decide)
    (hbase : attributeBase (.Name x npos) "pop" X.env (eval (.Name x npos) X.env) = eval (.Name x npos) X.env := by rfl) (hline : (apos.endLine == cpos.line) = true := by rfl) :
    PD X G B (.Call (.Attribute (.Name x npos) "pop" apos) [] [] cpos) (oMut i fPop oNil) :=
  pd_mut0 i F.slot_list_pop F.type_list_pop mt_pop mutS_pop hN hv hd hcd hbase hline
end
/-! ### defs by their names -/
structure Cal (P : Program) (w : World) (K : PySem.W.Frag) (mg : Str → Option Value) (base : Heap) (k : Nat) (x : Str) (ps : List Str) (g : Fn) : Prop where
  ex : ∃ f fd, FnOk P w K mg base CX0 k f fd ps (spD K ps.length g) ∧ mg x = some (.ref f) ∧ PySem.W.keepIn K (.ref f) = true ∧ Binds K fd ps []
section
variable {X : Cx} {G : Gm} {B : Wish} {k kk : Nat} {ps : List Str} {g : Fn} {x : Str} {p pos : Pos} {e : Expr} {es : List Expr} {oas : O (List Va)}
theorem rd_cal (c : Cal X.prog X.w X.K X.mg X.base k x ps g) (hr : Room kk X.A) (hk : k ≤ kk) (hg : Gl X x) (ha : AD X G noB (e :: es) oas) (hl : Many ps.length oas) (hdb : (x == ("__debug__" : Str)) = false := by decide)
    (he : starEach (e :: es) X.env = (false, eval e X.env) :: starEach es X.env := by rfl) (hpl : (backTo pos (starEach es X.env)).any (·.1) = false := by rfl) : RD X G noB (.Call (.Name x p) (e :: es) [] pos) (oCall g oas) := by
  obtain ⟨f, fd, F, hm, kp, b⟩ := c.ex
  exact rd_call F (hr.mono hk) hg hm kp b ha hl hdb he hpl
theorem rd_cal0 (c : Cal X.prog X.w X.K X.mg X.base k x [] g) (hr : Room kk X.A) (hk : k ≤ kk) (hg : Gl X x) (hdb : (x == ("__debug__" : Str)) = false := by decide) : RD X G noB (.Call (.Name x p) [] [] pos) (oCall g oNil) := by
  obtain ⟨f, fd, F, hm, kp, b⟩ := c.ex
  exact rd_call0 F (hr.mono hk) hg hm kp b hdb
end
end Ow
namespace Ow
open PySem PySem.Spec PyProof.Rows L2
/-! ### the module's constants, read in the written part -/
mutual
def konB (K : PySem.W.Frag) : Nat → D → Value → Bool
  | _, .none, .none => true
  | _, .bool b, .bool c => b == c
  | _, .int i, .int j _ => decide (i = j)
  | _, .str x, .str y _ => decide (x = y)
  | n + 1, .dict [(.bool true, .tuple ds)], .ref a => match K.lookup a with
    | some ⟨.type c, _, .seq its _, _⟩ => decide (c = "tuple") && (decide (its.size ≤ sizeLine) && konL K n ds its.toList)
    | _ => false
  | _, _, _ => false
def konL (K : PySem.W.Frag) : Nat → List D → List Value → Bool
  | _, [], [] => true
  | n + 1, d :: ds, u :: us => konB K n d u && konL K n ds us
  | _, _, _ => false
end
theorem rpAll_of {K : PySem.W.Frag} {vs : List V} {ds : List D} (h : Paired (fun v d => ∀ Z, Rp K Z v d) vs ds) (Z : Hp) : RpAll K Z vs ds := by
  induction h with
  | nil => exact .nil
  | cons h1 h2 ih => exact .cons (h1 Z) ih
theorem kon_ok {K : PySem.W.Frag} : ∀ n : Nat, (∀ (d : D) (u : Value), konB K n d u = true → ∃ v, RelV v u ∧ ∀ Z, Rp K Z v d) ∧ (∀ (ds : List D) (us : List Value), konL K n ds us = true → ∃ vs, Vals vs us ∧ Paired (fun v d => ∀ Z, Rp K Z v d) vs ds) := by
  intro n
  induction n with
  | zero =>
    refine ⟨fun d u h => ?_, fun ds us h => ?_⟩
    · unfold konB at h
      split at h
      · exact ⟨.non, rfl, fun Z => .non⟩
      · rw [eq_of_beq h]; exact ⟨.bl _, rfl, fun Z => .bl _⟩
      · rw [of_decide_eq_true h]; exact ⟨.int _, ⟨_, rfl⟩, fun Z => .int _⟩
      · rw [of_decide_eq_true h]; exact ⟨.str _, ⟨_, rfl⟩, fun Z => .str _⟩
      · exact absurd ‹0 = Nat.succ _› (Nat.succ_ne_zero _).symm
      · cases h
    · unfold konL at h
      split at h
      · exact ⟨[], .nil, .nil⟩
      · exact absurd ‹0 = Nat.succ _› (Nat.succ_ne_zero _).symm
      · cases h
  | succ n ih =>
    refine ⟨fun d u h => ?_, fun ds us h => ?_⟩
    · unfold konB at h
      split at h
      · exact ⟨.non, rfl, fun Z => .non⟩
      · rw [eq_of_beq h]; exact ⟨.bl _, rfl, fun Z => .bl _⟩
      · rw [of_decide_eq_true h]; exact ⟨.int _, ⟨_, rfl⟩, fun Z => .int _⟩
      · rw [of_decide_eq_true h]; exact ⟨.str _, ⟨_, rfl⟩, fun Z => .str _⟩
      · rename_i m ds a hn
        cases hn
        split at h
        · rename_i c _ its z _ q
          obtain ⟨h1, h2⟩ := He.ba h
          obtain ⟨h3, h4⟩ := He.ba h2
          obtain ⟨vs, hv, hd⟩ := ih.2 _ _ h4
          exact ⟨.ref a, rfl, fun Z => .kon (.inr ⟨_, its, z, q, congrArg Value.type (of_decide_eq_true h1), rfl, of_decide_eq_true h3, hv⟩) (rpAll_of hd Z)⟩
        · cases h
      · cases h
    · unfold konL at h
      split at h
      · exact ⟨[], .nil, .nil⟩
      · rename_i m d ds u us hn
        cases hn
        obtain ⟨h1, h2⟩ := He.ba h
        obtain ⟨v, rv, rd⟩ := ih.1 _ _ h1
        obtain ⟨vs, rvs, rds⟩ := ih.2 _ _ h2
        exact ⟨v :: vs, .cons rv rvs, .cons rd rds⟩
      · cases h
def konG (K : PySem.W.Frag) (x : Str) (d : D) : Bool := match PySem.W.nsIn K mainGlobals x with
  | some (some u) => konB K 1000 d u
  | _ => false
theorem konG_ok {K : PySem.W.Frag} {h : Heap} {mg : Str → Option Value} (X : K.In h) (G : h.Ns mainGlobals mg) {x : Str} {d : D} (c : konG K x d = true) : Kn K mg x d := by
  unfold konG at c
  split at c
  · rename_i u e
    obtain ⟨v, r, z⟩ := (kon_ok 1000).1 _ _ c
    exact ⟨v, u, PySem.W.mg_of X G e, r, z⟩
  · cases c
/-! ### the head's hook, and more facts -/
open He
def obsQ (fa : List Fa) (fn : List DefD) (ex : PySem.W.Frag → Bool) (K : PySem.W.Frag) : AlD := (((fa.all fun f => f.ok K) && fn.all fun d => d.ok K) && ex K, fn.map fun d => fnW K d.at_)
def obsQG (n : Nat) (fa : List Fa) (fn : List DefD) (ex : PySem.W.Frag → Bool) (g : Addr → Option Obj) : AlD := obsQ fa fn ex (frG g (asD g n))
def hookQ (n : Nat) (fa : List Fa) (fn : List DefD) (ex : PySem.W.Frag → Bool) : PySem.W.Hook where
  α := AlD
  obs := fun s => obsQG n fa fn ex s.heap.get?
  val := fun _ => He.valD fn
  says := fun _ h => ∃ K : PySem.W.Frag, K.In h ∧ SaysD fa fn K ∧ ex K = true
  of := fun _ _ e => ⟨_, frG_in, by
    have e1 : (((fa.all fun f => f.ok _) && fn.all fun d => d.ok _) && ex _) = true := congrArg (fun z : AlD => z.1) e
    have e2 := congrArg (fun z : AlD => z.2) e
    obtain ⟨e3, e4⟩ := ba e1
    exact ⟨Prod.ext e3 e2, e4⟩⟩
  keeps := fun _ _ _ ⟨K, hK, c⟩ k => ⟨K, PySem.W.Frag.In.keeps hK k, c⟩
theorem obsQG_eq {n : Nat} {fa : List Fa} {fn : List DefD} {ex : PySem.W.Frag → Bool} {g : Addr → Option Obj} {s : Shared} (h : ∀ a, g a = s.heap.get? a) : obsQG n fa fn ex g = (hookQ n fa fn ex).obs s := by
  have e : g = s.heap.get? := funext h
  rw [e] <;> rfl
/-! ### the end -/
section
variable {P : Program} {w : World} {K : PySem.W.Frag} {mg : Str → Option Value} {base : Heap} {k : Nat} {x qual : Str} {params : Arguments} {body : List Stmt} {scope : Scope} {f : Addr} {fd : FuncData} {ps : List Str} {g : Fn}
theorem Cal.of (ok : FnOk P w K mg base CX0 k f fd ps (spD K ps.length g)) (hm : mg x = some (.ref f)) (F : FunD K x qual params body scope [] [] f fd)
    (h : ∀ (kV doc pm : Value) (an : Option Addr) (cdv ct : Value) (us : List Value), us.length = ps.length → bindArgs (PySem.W.fnOf x qual params body scope .none kV doc pm an cdv ct) ⟨us, []⟩ = pure (ps.zip us)) : Cal P w K mg base k x ps g :=
  ⟨f, fd, ok, hm, F.kp, F.bindsN h⟩
theorem sp_law {outs : List Sl} {H : Hp} {a : Addr} {ns : List Int} (hg : ∃ outs, g [.pu (scr (ns.map PyData.int))] = .ret (.pu (.bool true)) outs) (hS : SqL K H a (ns.map V.int)) : spD K 1 g [.ref a] H (fun v _ => v = .bl true) (fun _ _ _ => False) := by
  obtain ⟨outs, hg⟩ := hg
  refine ⟨rfl, H, [.pu (scr (ns.map PyData.int))], .refl _, ⟨rfl, fun i e => ?_, fun i d e => ?_, fun i p c e => ?_, fun i j p q c d n e1 e2 => ?_⟩, ?_⟩
  · cases i with
    | zero => cases e
    | succ i => cases e
  · cases i with
    | zero => cases e; exact ⟨_, rfl, .frz hS (RpAll.ints ns)⟩
    | succ i => cases e
  · cases i with
    | zero => cases e
    | succ i => cases e
  · cases i with
    | zero => cases e1
    | succ i => cases e1
  · rw [hg]
    intro v Z' H' _ hr
    cases (show Rp K Z' v (.bool true) from hr)
    rfl
end
end Ow
namespace Ow
open PySem L2
/-! ### running the plain programs: rules for simp -/
section
variable (z : Sl) (ρ : Rho)
@[simp] theorem ap_pu (o : O D) : oPu o (z :: ρ) = (o (z :: ρ)).bind fun d ρ1 => .ok (.pu d) ρ1 := rfl
@[simp] theorem ap_res (o : O D) : oRes o (z :: ρ) = (o (z :: ρ)).bind fun d ρ1 => .ok (.pu d) ρ1 := rfl
@[simp] theorem ap_frz (o : O Rs) : oFrz o (z :: ρ) = (o (z :: ρ)).bind frz1 := rfl
@[simp] theorem ap_keep (o : O Va) : oKeep o (z :: ρ) = (o (z :: ρ)).bind keep1 := rfl
@[simp] theorem ap_c (d : D) : oC d (z :: ρ) = .ok d (z :: ρ) := rfl
theorem ap_var (i : Nat) : oVar i (z :: ρ) = match (z :: ρ)[i]? with | some (.pu d) => .ok (.pu d) (z :: ρ) | some (.ow _ _) => .ok (.rf i) (z :: ρ) | _ => .st := rfl
@[simp] theorem ap_bin (f : D → D → Option Rs) (a b : O Va) : oBin f a b (z :: ρ) = (a (z :: ρ)).bind fun x ρ1 => (b ρ1).bind fun y ρ2 => bin1 f x y ρ2 := rfl
@[simp] theorem ap_un (f : D → Option Rs) (a : O Va) : oUn f a (z :: ρ) = (a (z :: ρ)).bind (un1 f) := rfl
@[simp] theorem ap_tst (o : O Rs) : oTst o (z :: ρ) = (o (z :: ρ)).bind tst1 := rfl
@[simp] theorem ap_tru (o : O Va) : oTru o (z :: ρ) = (o (z :: ρ)).bind tru1 := rfl
@[simp] theorem ap_and (a b : O Bool) : oAnd a b (z :: ρ) = (a (z :: ρ)).bind fun c ρ1 => if c = true then b ρ1 else .ok false ρ1 := rfl
@[simp] theorem ap_or (a b : O Bool) : oOr a b (z :: ρ) = (a (z :: ρ)).bind fun c ρ1 => if c = true then .ok true ρ1 else b ρ1 := rfl
@[simp] theorem ap_not (a : O Bool) : oNot a (z :: ρ) = (a (z :: ρ)).bind fun c ρ1 => .ok (!c) ρ1 := rfl
@[simp] theorem ap_bl (a : O Bool) : oBl a (z :: ρ) = (a (z :: ρ)).bind fun c ρ1 => .ok (.bool c) ρ1 := rfl
@[simp] theorem ap_if {α : Type} (c : O Bool) (a b : O α) : oIf c a b (z :: ρ) = (c (z :: ρ)).bind fun t ρ1 => if t = true then a ρ1 else b ρ1 := rfl
@[simp] theorem ap_andV (a b : O D) : oAndV a b (z :: ρ) = (a (z :: ρ)).bind fun d ρ1 => bl1 d fun c => if c = true then b ρ1 else .ok (.bool false) ρ1 := rfl
@[simp] theorem ap_orV (a b : O D) : oOrV a b (z :: ρ) = (a (z :: ρ)).bind fun d ρ1 => bl1 d fun c => if c = true then .ok (.bool true) ρ1 else b ρ1 := rfl
@[simp] theorem ap_notV (a : O D) : oNotV a (z :: ρ) = (a (z :: ρ)).bind fun d ρ1 => bl1 d fun c => .ok (.bool (!c)) ρ1 := rfl
@[simp] theorem ap_chain (f g : D → D → Option Rs) (oa ob oc : O Va) : oChain f g oa ob oc (z :: ρ) = (oa (z :: ρ)).bind fun a ρ1 => (ob ρ1).bind fun b ρ2 => (bin1 f a b ρ2).bind fun r ρ3 => (tst1 r ρ3).bind fun k ρ4 => if k = true then (oc ρ4).bind fun c ρ5 => bin1 g b c ρ5 else .ok (.pu (.bool false)) ρ4 := rfl
@[simp] theorem ap_nil {α : Type} : (oNil : O (List α)) (z :: ρ) = .ok [] (z :: ρ) := rfl
@[simp] theorem ap_cons {α : Type} (a : O α) (r : O (List α)) : oCons a r (z :: ρ) = (a (z :: ρ)).bind fun x ρ1 => (r ρ1).bind fun xs ρ2 => .ok (x :: xs) ρ2 := rfl
@[simp] theorem ap_tup (o : O (List D)) : oTup o (z :: ρ) = (o (z :: ρ)).bind fun ds ρ1 => if ds.length ≤ 16000000 then .ok (.tuple ds) ρ1 else .st := rfl
@[simp] theorem ap_lst (o : O (List D)) : oLst o (z :: ρ) = (o (z :: ρ)).bind fun ds ρ1 => if ds.length ≤ 16000000 then .ok (.nw (.li ds)) ρ1 else .st := rfl
@[simp] theorem ap_part (o : O D) : oPart o (z :: ρ) = (o (z :: ρ)).bind part1 := rfl
@[simp] theorem ap_noPart : oNoPart (z :: ρ) = .ok none (z :: ρ) := rfl
@[simp] theorem ap_sl (oa : O Va) (ol oh : O (Option Int)) : oSl oa ol oh (z :: ρ) = (oa (z :: ρ)).bind fun a ρ1 => (ol ρ1).bind fun lo ρ2 => (oh ρ2).bind fun hi ρ3 => sl1 a lo hi ρ3 := rfl
@[simp] theorem ap_cb (f : List D → Option Rs) (oas : O (List Va)) : oCB f oas (z :: ρ) = (oas (z :: ρ)).bind (cb1 f) := rfl
@[simp] theorem ap_len (o : O Va) : oLen o (z :: ρ) = (o (z :: ρ)).bind len1 := rfl
@[simp] theorem ap_isi (T : String) (o : O Va) : oIsi T o (z :: ρ) = (o (z :: ρ)).bind (isi1 T) := rfl
@[simp] theorem ap_bm (T : String) (f : D → List D → Option Rs) (oo : O Va) (oas : O (List Va)) : oBM T f oo oas (z :: ρ) = (oo (z :: ρ)).bind fun a ρ1 => ty1 T a ρ1 ((oas ρ1).bind fun as ρ2 => met1 f a as ρ2) := rfl
@[simp] theorem ap_seq (a b : Os) : oSeq a b (z :: ρ) = (a (z :: ρ)).then b := rfl
@[simp] theorem ap_next : oNext (z :: ρ) = .nx (z :: ρ) := rfl
@[simp] theorem ap_break : oBreak (z :: ρ) = .bk (z :: ρ) := rfl
@[simp] theorem ap_cont : oCont (z :: ρ) = .ct (z :: ρ) := rfl
@[simp] theorem ap_drop {α : Type} (o : O α) : oDrop o (z :: ρ) = (o (z :: ρ)).bindS fun _ ρ1 => .nx ρ1 := rfl
@[simp] theorem ap_ret (o : O Rs) : oRet o (z :: ρ) = (o (z :: ρ)).bindS fun r ρ1 => .rt r ρ1 := rfl
@[simp] theorem ap_retN : oRetN (z :: ρ) = .rt (.pu .none) (z :: ρ) := rfl
theorem ap_retV (i : Nat) : oRetV i (z :: ρ) = match (z :: ρ)[i]? with | some (.pu d) => .rt (.pu d) (z :: ρ) | some (.ow false c) => .rt (.nw c) ((z :: ρ).set i .no) | _ => .st := rfl
@[simp] theorem ap_ifS (c : O Bool) (a b : Os) : oIfS c a b (z :: ρ) = (c (z :: ρ)).bindS fun t ρ1 => if t = true then a ρ1 else b ρ1 := rfl
@[simp] theorem ap_set (i : Nat) (o : O Rs) : oSet i o (z :: ρ) = (o (z :: ρ)).bindS fun r ρ1 => nx1 (setSl ρ1 i r.sl) := rfl
@[simp] theorem ap_asg (o : O D) (g : D → Rho → Option Rho) : oAsg o g (z :: ρ) = (o (z :: ρ)).bindS fun d ρ1 => nx1 (g d ρ1) := rfl
@[simp] theorem ap_for (oi : O (List D)) (g : D → Rho → Option Rho) (b : Os) : oFor oi g b (z :: ρ) = (oi (z :: ρ)).bindS fun ds ρ1 => forL g b ds ρ1 := rfl
@[simp] theorem ap_itm (o : O Va) : oItm o (z :: ρ) = (o (z :: ρ)).bind itm1 := rfl
@[simp] theorem ap_range (o : O (List D)) : oRange o (z :: ρ) = (o (z :: ρ)).bind rg1 := rfl
@[simp] theorem ap_range2 (o : O (List D)) : oRange2 o (z :: ρ) = (o (z :: ρ)).bind rg2 := rfl
@[simp] theorem ap_range3 (o : O (List D)) : oRange3 o (z :: ρ) = (o (z :: ρ)).bind rg3 := rfl
@[simp] theorem ap_enumL (o : O D) : oEnumL o (z :: ρ) = (o (z :: ρ)).bind en1 := rfl
@[simp] theorem ap_zip (o : O (List D)) : oZip o (z :: ρ) = (o (z :: ρ)).bind zp1 := rfl
@[simp] theorem ap_lc (vs : List Nat) (oi : O (List D)) (g : D → Rho → Option Rho) (ot : O Bool) (oe : O D) : oLc vs oi g ot oe (z :: ρ) = (oi (z :: ρ)).bind (lc1 vs g ot oe) := rfl
@[simp] theorem ap_call (g : Fn) (oas : O (List Va)) : oCall g oas (z :: ρ) = (oas (z :: ρ)).bind (call1 g) := rfl
@[simp] theorem ap_newK : oNewK (z :: ρ) = .ok (.nw (.dk [])) (z :: ρ) := rfl
@[simp] theorem ap_newT : oNewT (z :: ρ) = .ok (.nw (.dt [])) (z :: ρ) := rfl
@[simp] theorem ap_ixA (oa ob : O Va) : oIxA oa ob (z :: ρ) = (oa (z :: ρ)).bind fun a ρ1 => (ob ρ1).bind fun b ρ2 => ixA1 a b ρ2 := rfl
@[simp] theorem ap_inA (neg : Bool) (oa ob : O Va) : oInA neg oa ob (z :: ρ) = (oa (z :: ρ)).bind fun a ρ1 => (ob ρ1).bind fun b ρ2 => inA1 neg a b ρ2 := rfl
@[simp] theorem ap_stA (k : Nat) (ov oi : O D) : oStA k ov oi (z :: ρ) = if isDic (z :: ρ)[k]? = true then oStD k ov oi (z :: ρ) else oStL k ov oi (z :: ρ) := rfl
@[simp] theorem ap_stD (k : Nat) (ov oi : O D) : oStD k ov oi (z :: ρ) = (ov (z :: ρ)).bindS fun d ρ1 => match ρ1[k]? with | some (.ow _ _) => (oi ρ1).bindS fun i ρ2 => stD1 k d i ρ2 | _ => .st := rfl
@[simp] theorem ap_stL (k : Nat) (ov oi : O D) : oStL k ov oi (z :: ρ) = (ov (z :: ρ)).bindS fun d ρ1 => match ρ1[k]? with
  | some (.ow _ (.li _)) => (oi ρ1).bindS fun i ρ2 => stL1 k d i ρ2
  | _ => .st := rfl
@[simp] theorem zp_var0 (d : D) : oVar 0 (.pu d :: ρ) = .ok (.pu d) (.pu d :: ρ) := rfl
theorem ap_c0 (d : D) : oC d [] = .ok d [] := rfl
end
section
variable (a b : Os) (o : O Rs) (d : O D)
@[simp] theorem ap0_seq : oSeq a b [] = (a []).then b := rfl
@[simp] theorem ap0_ret : oRet o [] = (o []).bindS fun r ρ1 => .rt r ρ1 := rfl
@[simp] theorem ap0_res : oRes d [] = (d []).bind fun d ρ1 => .ok (.pu d) ρ1 := rfl
@[simp] theorem ap0_pu : oPu d [] = (d []).bind fun d ρ1 => .ok (.pu d) ρ1 := rfl
@[simp] theorem ap0_frz : oFrz o [] = (o []).bind frz1 := rfl
@[simp] theorem ap0_c (x : D) : oC x [] = .ok x [] := rfl
end
end Ow
namespace Ow
open PySem L2
/-! ### more rules -/
theorem atI_nn {α : Type} {xs : List α} {i : Int} (h : 0 ≤ i) : L2.atI xs i = xs[i.toNat]? := by
  unfold L2.atI L2.ixN
  rw [if_pos h]
  by_cases h1 : i < xs.length
  · rw [if_pos h1]; rfl
  · rw [if_neg h1, List.getElem?_eq_none (by omega)]; rfl
@[simp] theorem atI_lit {α : Type} (xs : List α) (n : Nat) : L2.atI xs (no_index (OfNat.ofNat n) : Int) = xs[n]? := by
  have h := atI_nn (xs := xs) (i := (n : Int)) (Int.natCast_nonneg n)
  exact h
@[simp] theorem atI_0 {α : Type} (xs : List α) : L2.atI xs 0 = xs[0]? := atI_nn (Int.le_refl 0)
@[simp] theorem atI_1 {α : Type} (xs : List α) : L2.atI xs 1 = xs[1]? := atI_nn (by decide)
theorem atI_cast {α : Type} (xs : List α) (n : Nat) : L2.atI xs (n : Int) = xs[n]? := by
  rw [atI_nn (Int.natCast_nonneg n)]
  rfl
@[simp] theorem rdV_rf (ρ : Rho) (i : Nat) : rdV ρ (.rf i) = match ρ[i]? with | some (.ow _ (.li ds)) => some (.list ds) | _ => none := rfl
theorem bin1_eq (f : D → D → Option Rs) (a b : Va) (ρ : Rho) : bin1 f a b ρ = match rdV ρ a, rdV ρ b with | some dx, some dy => (match f dx dy with | some r => .ok r ρ | none => .st) | _, _ => .st := rfl
@[simp] theorem bin1_rl (f : D → D → Option Rs) (i : Nat) (d : D) (ρ : Rho) : bin1 f (.rf i) (.pu d) ρ = match rdV ρ (.rf i) with | some dx => (match f dx d with | some r => .ok r ρ | none => .st) | none => .st := by
  rw [bin1_eq, rdV_pu]
  cases rdV ρ (.rf i) <;> rfl
@[simp] theorem bin1_lr (f : D → D → Option Rs) (i : Nat) (d : D) (ρ : Rho) : bin1 f (.pu d) (.rf i) ρ = match rdV ρ (.rf i) with | some dx => (match f d dx with | some r => .ok r ρ | none => .st) | none => .st := by
  rw [bin1_eq, rdV_pu]
  cases rdV ρ (.rf i) <;> rfl
@[simp] theorem ix_l (xs : List D) (i : Int) : fIx (.list xs) (.int i) = (L2.atI xs i).map .pu := rfl
@[simp] theorem ix_t (xs : List D) (i : Int) : fIx (.tuple xs) (.int i) = (L2.atI xs i).map .pu := rfl
@[simp] theorem f_add (i j : Int) : fAdd (.int i) (.int j) = some (.pu (.int (i + j))) := rfl
@[simp] theorem f_sub (i j : Int) : fSub (.int i) (.int j) = some (.pu (.int (i - j))) := rfl
@[simp] theorem f_mulX (i j : Int) : fMulX (.int i) (.int j) = if mulOk i j = true then some (.pu (.int (i * j))) else none := rfl
@[simp] theorem f_div (i j : Int) : fDiv (.int i) (.int j) = if divOk i j = true then some (.pu (.int (i / j))) else none := rfl
@[simp] theorem f_mod (i j : Int) : fMod (.int i) (.int j) = if 0 < j then some (.pu (.int (i % j))) else none := rfl
@[simp] theorem f_pow (i j : Int) : fPow (.int i) (.int j) = if 0 ≤ j ∧ j ≤ 1000000 ∧ i.natAbs < 2 ^ 64 then some (.pu (.int (i ^ j.toNat))) else none := rfl
@[simp] theorem f_shl (i j : Int) : fShl (.int i) (.int j) = if 0 ≤ j ∧ j ≤ 1000000 ∧ i.natAbs < 2 ^ 64 then some (.pu (.int (i * 2 ^ j.toNat))) else none := rfl
@[simp] theorem f_lt (i j : Int) : fLt (.int i) (.int j) = some (.pu (.bool (decide (i < j)))) := rfl
@[simp] theorem f_le (i j : Int) : fLe (.int i) (.int j) = some (.pu (.bool (decide (i ≤ j)))) := rfl
@[simp] theorem f_gt (i j : Int) : fGt (.int i) (.int j) = some (.pu (.bool (decide (j < i)))) := rfl
@[simp] theorem f_ge (i j : Int) : fGe (.int i) (.int j) = some (.pu (.bool (decide (j ≤ i)))) := rfl
@[simp] theorem f_neg (i : Int) : fNeg (.int i) = some (.pu (.int (-i))) := rfl
@[simp] theorem f_int2 (g : Int → Int → Int) (i j : Int) : fInt2 g (.int i) (.int j) = some (.pu (.int (g i j))) := rfl
@[simp] theorem f_intX (i : Int) : fIntX [.int i] = some (.pu (.int i)) := rfl
@[simp] theorem f_intXb (b : Bool) : fIntX [.bool b] = some (.pu (.int (if b then 1 else 0))) := by cases b <;> rfl
@[simp] theorem f_abs (i : Int) : fAbs [.int i] = some (.pu (.int (if i < 0 then -i else i))) := rfl
@[simp] theorem f_lenL (xs : List D) : fLen (.list xs) = some xs.length := rfl
@[simp] theorem f_lenT (xs : List D) : fLen (.tuple xs) = some xs.length := rfl
@[simp] theorem f_listL (xs : List D) : fList [.list xs] = some (.nw (.li xs)) := rfl
@[simp] theorem f_listT (xs : List D) : fList [.tuple xs] = some (.nw (.li xs)) := rfl
@[simp] theorem f_tupleL (xs : List D) : fTuple [.list xs] = some (.pu (.tuple xs)) := rfl
@[simp] theorem f_tupleT (xs : List D) : fTuple [.tuple xs] = some (.pu (.tuple xs)) := rfl
@[simp] theorem cb1_eq (f : List D → Option Rs) (as : List Va) (ρ : Rho) : cb1 f as ρ = match rdVs ρ as with | some ds => (match f ds with | some r => .ok r ρ | none => .st) | none => .st := rfl
theorem setSl_eq (ρ : Rho) (i : Nat) (s : Sl) : setSl ρ i s = match ρ[i]? with | some (.ow true _) => none | some _ => some (ρ.set i s) | none => none := rfl
theorem fnOf_eq (n : Nat) (b : Os) (as : List Sl) : fnOf n b as = match b (as ++ List.replicate (n - as.length) Sl.no) with
  | .nx ρ => .ret (.pu .none) (ρ.take as.length)
  | .rt r ρ => .ret r (ρ.take as.length)
  | _ => .st := rfl
@[simp] theorem aug_eq (i : Nat) (f : D → D → Option Rs) (o : O Va) (z : Sl) (ρ : Rho) : oAug i f o (z :: ρ) = match (z :: ρ)[i]? with | some (.pu x) => (o (z :: ρ)).bindS (aug1 i f x) | _ => .st := rfl
@[simp] theorem aug1_eq (i : Nat) (f : D → D → Option Rs) (x : D) (b : Va) (ρ : Rho) : aug1 i f x b ρ = match rdV ρ b with
  | some dy => (match f x dy with
    | some (.pu d) => nx1 (setSl ρ i (.pu d))
    | _ => .st)
  | none => .st := rfl
@[simp] theorem auL_eq (k : Nat) (f : D → D → Option Rs) (oi oe : O D) (z : Sl) (ρ : Rho) : oAuL k f oi oe (z :: ρ) = match (z :: ρ)[k]? with | some (.ow _ (.li _)) => (oi (z :: ρ)).bindS (auL2 k f oe) | _ => .st := rfl
@[simp] theorem auL2_eq (k : Nat) (f : D → D → Option Rs) (oe : O D) (j : Int) (ρ : Rho) : auL2 k f oe (.int j) ρ = match ρ[k]? with
  | some (.ow _ (.li ds)) => if 0 ≤ j then (match ds[j.toNat]? with
    | some x => (oe ρ).bindS fun d ρ1 => auL1 k f j.toNat x d ρ1
    | none => .st)
    else .st
  | _ => .st := by
  unfold auL2
  cases ρ[k]? with
  | none => rfl
  | some s =>
    cases s with
    | ow p c => cases c <;> rfl
    | _ => rfl
@[simp] theorem auL1_eq (k : Nat) (f : D → D → Option Rs) (j : Nat) (x d : D) (ρ : Rho) : auL1 k f j x d ρ = match ρ[k]? with
  | some (.ow p (.li ds)) => (match f x d with
    | some (.pu y) => if j < ds.length then .nx (ρ.set k (.ow p (.li (ds.set j y)))) else .st
    | _ => .st)
  | _ => .st := rfl
@[simp] theorem stL1_eq (k : Nat) (d : D) (j : Int) (ρ : Rho) : stL1 k d (.int j) ρ = match ρ[k]? with
  | some (.ow p (.li ds)) => (match stL ds (.int j) d with
    | some c => .nx (ρ.set k (.ow p c))
    | none => .st)
  | _ => .st := by
  unfold stL1
  rfl
theorem divOk_of {i j : Int} (h : 0 < j) (h2 : j < 2 ^ 64) : divOk i j = true := by
  unfold divOk
  refine decide_eq_true ⟨h, ?_⟩
  have : j.natAbs < 2 ^ 64 := by omega
  have := (Nat.log2_lt (by omega : j.natAbs ≠ 0)).mpr this
  omega
theorem divOk_of2 {i j : Int} (h : 0 < j) (h2 : j.natAbs.log2 < 9000) : divOk i j = true := decide_eq_true ⟨h, h2⟩
theorem mulOk_l {i j : Int} (h1 : -(2 ^ 64) < i) (h2 : i < 2 ^ 64) : mulOk i j = true := decide_eq_true (.inl ⟨h1, h2⟩)
theorem mulOk_r {i j : Int} (h1 : -(2 ^ 64) < j) (h2 : j < 2 ^ 64) : mulOk i j = true := decide_eq_true (.inr ⟨h1, h2⟩)
section
variable (z : Sl) (ρ : Rho)
@[simp] theorem mut_eq (i : Nat) (f : Ct → List D → Option (Ct × D)) (oas : O (List Va)) : oMut i f oas (z :: ρ) = match (z :: ρ)[i]? with | some (.ow _ (.li _)) => (oas (z :: ρ)).bind (mut1 i f) | _ => .st := rfl
@[simp] theorem mutK_eq (i : Nat) (f : Ct → List D → Option (Ct × D)) (oas : O (List D)) : oMutK i f oas (z :: ρ) = match (z :: ρ)[i]? with | some (.ow _ (.li _)) => (oas (z :: ρ)).bind (mutK1 i f) | _ => .st := rfl
@[simp] theorem mut1_eq (i : Nat) (f : Ct → List D → Option (Ct × D)) (as : List Va) : mut1 i f as (z :: ρ) = match (z :: ρ)[i]?, rdVs (z :: ρ) as with
  | some (.ow p c), some ds => (match f c ds with
    | some (c', d) => .ok d ((z :: ρ).set i (.ow p c'))
    | none => .st)
  | _, _ => .st := rfl
@[simp] theorem mutK1_eq (i : Nat) (f : Ct → List D → Option (Ct × D)) (ds : List D) : mutK1 i f ds (z :: ρ) = match (z :: ρ)[i]? with
  | some (.ow p c) => (match f c ds with
    | some (c', d) => .ok d ((z :: ρ).set i (.ow p c'))
    | none => .st)
  | _ => .st := rfl
@[simp] theorem call1_eq (g : Fn) (vas : List Va) : call1 g vas (z :: ρ) = match argsOf (z :: ρ) vas with
  | some as => if (rfs vas).Nodup then (match g as with
    | .st => .st
    | .ret r outs => .ok r (wb vas outs (z :: ρ))
    | .exc x outs => .ex x (wb vas outs (z :: ρ)))
    else .st
  | none => .st := rfl
@[simp] theorem call0_eq (g : Fn) (vas : List Va) : call1 g vas [] = match argsOf [] vas with
  | some as => if (rfs vas).Nodup then (match g as with
    | .st => .st
    | .ret r outs => .ok r (wb vas outs [])
    | .exc x outs => .ex x (wb vas outs []))
    else .st
  | none => .st := rfl
@[simp] theorem argOf_rf (i : Nat) : argOf (z :: ρ) (.rf i) = match (z :: ρ)[i]? with | some (.ow _ c) => some (.ow true c) | _ => none := rfl
@[simp] theorem setCt_cons (i : Nat) (c : Ct) : setCt (z :: ρ) i c = match (z :: ρ)[i]? with | some (.ow p _) => (z :: ρ).set i (.ow p c) | _ => z :: ρ := rfl
@[simp] theorem keep1_rf (i : Nat) : keep1 (.rf i) (z :: ρ) = match (z :: ρ)[i]? with | some (.ow false (.li ds)) => .ok (.list ds) ((z :: ρ).set i (.pu (.list ds))) | _ => .st := rfl
@[simp] theorem itm1_rf (i : Nat) : itm1 (.rf i) (z :: ρ) = match (z :: ρ)[i]? with | some (.ow false (.li ds)) => .ok ds ((z :: ρ).set i (.pu (.list ds))) | _ => .st := rfl
@[simp] theorem met1_eq (f : D → List D → Option Rs) (a : Va) (as : List Va) : met1 f a as (z :: ρ) = match rdV (z :: ρ) a, rdVs (z :: ρ) as with
  | some d, some ds => (match f d ds with
    | some r => .ok r (z :: ρ)
    | none => .st)
  | _, _ => .st := rfl
@[simp] theorem met1_eq0 (f : D → List D → Option Rs) (a : Va) (as : List Va) : met1 f a as [] = match rdV [] a, rdVs [] as with
  | some d, some ds => (match f d ds with
    | some r => .ok r []
    | none => .st)
  | _, _ => .st := rfl
@[simp] theorem ty1_pu (T : String) (d : D) (m : M Rs) (ρ : Rho) : ty1 T (.pu d) ρ m = if isTy T d = true then m else .st := rfl
@[simp] theorem isTy_s (x : Str) : isTy "str" (.str x) = true := by unfold isTy; exact beq_self_eq_true _
@[simp] theorem sl1_eq (a : Va) (lo hi : Option Int) : sl1 a lo hi (z :: ρ) = match rdV (z :: ρ) a with
  | some d => (match fSl d lo hi with
    | some r => .ok r (z :: ρ)
    | none => .st)
  | none => .st := rfl
@[simp] theorem gNm_eq (i : Nat) (d : D) : gNm i d (z :: ρ) = setSl (z :: ρ) i (.pu d) := rfl
@[simp] theorem gCn_eq (g : D → Rho → Option Rho) (gs : List D → Rho → Option Rho) (d : D) (r : List D) : gCn g gs (d :: r) (z :: ρ) = (g d (z :: ρ)).bind (gs r) := rfl
@[simp] theorem gNl_eq : gNl [] ρ = some ρ := rfl
@[simp] theorem gTp_t (n : Nat) (gs : List D → Rho → Option Rho) (ds : List D) : gTp n gs (.tuple ds) ρ = if ds.length = n then gs ds ρ else none := rfl
@[simp] theorem gTp_k (n : Nat) (gs : List D → Rho → Option Rho) (ds : List D) : gTp n gs (.dict [(.bool true, .tuple ds)]) ρ = if ds.length = n then gs ds ρ else none := rfl
@[simp] theorem rg1_eq (j : Int) : rg1 [.int j] ρ = if -4611686018427387904 ≤ j ∧ j < 4611686018427387904 then .ok (rangeD 0 j.toNat) ρ else .st := rfl
@[simp] theorem rg2_eq (i j : Int) : rg2 [.int i, .int j] ρ = if (-4611686018427387904 ≤ i ∧ i < 4611686018427387904) ∧ -4611686018427387904 ≤ j ∧ j < 4611686018427387904 then .ok (rangeD i (j - i).toNat) ρ else .st := rfl
@[simp] theorem en1_eq (ds : List D) : en1 (.list ds) ρ = .ok (enumD 0 ds) ρ := rfl
@[simp] theorem zp1_l (xs ys : List D) : zp1 [.list xs, .list ys] ρ = .ok (pairsD xs ys) ρ := rfl
@[simp] theorem zp1_t (xs ys : List D) : zp1 [.tuple xs, .tuple ys] ρ = .ok (pairsD xs ys) ρ := rfl
@[simp] theorem isi1_eq (T : String) (d : D) : isi1 T (.pu d) ρ = match tyName d with
  | some n => (match L2.kitB n T with
    | some b => .ok (.pu (.bool b)) ρ
    | none => .st)
  | none => .st := rfl
end
@[simp] theorem f_app (xs : List D) (d : D) : fAppend (.li xs) [d] = if xs.length < 16000000 then some (.li (xs ++ [d]), .none) else none := rfl
@[simp] theorem f_ext (xs ys : List D) : fExtend (.li xs) [.list ys] = if xs.length + ys.length ≤ 16000000 then some (.li (xs ++ ys), .none) else none := rfl
@[simp] theorem f_popAt (xs : List D) (i : Int) : fPopAt (.li xs) [.int i] = if 0 ≤ i ∧ i < 4611686018427387904 then (xs[i.toNat]?).map fun d => (.li (xs.eraseIdx i.toNat), d) else none := rfl
@[simp] theorem f_lenS (x : Str) : fLen (.str x) = if x.length ≤ 16000000 then some x.length else none := rfl
@[simp] theorem f_addS (i j : Str) : fAdd (.str i) (.str j) = if i.length + j.length ≤ 16000000 then some (.pu (.str (i ++ j))) else none := rfl
@[simp] theorem f_addL (xs ys : List D) : fAdd (.list xs) (.list ys) = if xs.length + ys.length ≤ 16000000 then some (.nw (.li (xs ++ ys))) else none := rfl
@[simp] theorem f_addT (xs ys : List D) : fAdd (.tuple xs) (.tuple ys) = if xs.length + ys.length ≤ 16000000 then some (.pu (.tuple (xs ++ ys))) else none := rfl
@[simp] theorem f_mulS (a : Str) (n : Int) : fMulX (.str a) (.int n) = if mulSok a n = true then some (.pu (.str (repT a n))) else none := rfl
@[simp] theorem ix_s (x : Str) (i : Int) : fIx (.str x) (.int i) = if x.length ≤ 16000000 then (L2.atI x.cps.toList i).map fun c => .pu (.str ⟨#[c]⟩) else none := rfl
@[simp] theorem f_slL (xs : List D) (lo hi : Option Int) : fSl (.list xs) lo hi = some (.nw (.li (cutD xs lo hi))) := rfl
@[simp] theorem f_slT (xs : List D) (lo hi : Option Int) : fSl (.tuple xs) lo hi = some (.pu (.tuple (cutD xs lo hi))) := rfl
@[simp] theorem f_slS (x : Str) (lo hi : Option Int) : fSl (.str x) lo hi = if x.length ≤ 16000000 then some (.pu (.str (cutS x lo hi))) else none := rfl
@[simp] theorem f_inS (neg : Bool) (x y : Str) : fIn neg (.str x) (.str y) = some (.pu (.bool (if neg then !inT x y else inT x y))) := rfl
@[simp] theorem f_join (a : Str) (ys : List Str) : fJoin (.str a) [.list (ys.map PyData.str)] = if (ys.map (·.length)).sum + ys.length * a.length ≤ 16000000 then some (.pu (.str (Txt.join a ys))) else none := by
  simp [fJoin]
@[simp] theorem f_split (a b : Str) : fSplit (.str a) [.str b] = if (b.length == 0) = false ∧ a.length + 2 ≤ 16000000 then some (.nw (.li ((Txt.split a b).map PyData.str))) else none := rfl
@[simp] theorem f_str (i : Int) : fStr1 [.int i] = if i.natAbs.log2 < 1920 then some (.pu (.str (toString i : String))) else none := rfl
@[simp] theorem f_intS (a : Str) : fIntX [.str a] = if a.length ≤ 640 then (PySem.intText? a).map fun n => .pu (.int n) else none := rfl
@[simp] theorem f_all (bs : List Bool) : fAll [.list (bs.map PyData.bool)] = some (.pu (.bool (bs.all id))) := by
  show (boolsOf (bs.map PyData.bool)).map (fun bs => Rs.pu (.bool (bs.all id))) = _
  rw [boolsOf_map]
  rfl
end Ow
namespace Ow
open PySem L2
/-! ### loops, by invariants -/
theorem lcL_filter {α : Type} {vs : List Nat} {g : D → Rho → Option Rho} {ot : O Bool} {oe : O D} {ρ : Rho} {k : α → D} {p : α → Bool} {f : α → D} : ∀ {l : List α},
    (∀ a ∈ l, ∃ ρ1 ρ2, g (k a) ρ = some ρ1 ∧ ot ρ1 = .ok (p a) ρ2 ∧ (p a = true → ∃ ρ3, oe ρ2 = .ok (f a) ρ3 ∧ wipeR ρ3 vs = ρ) ∧ (p a = false → wipeR ρ2 vs = ρ)) → lcL vs g ot oe (l.map k) ρ = .ok ((l.filter p).map f) ρ
  | [], _ => rfl
  | a :: l, h => by
    obtain ⟨ρ1, ρ2, h1, h2, h3, h4⟩ := h a (List.mem_cons_self)
    have ih := lcL_filter (l := l) fun d hd => h d (List.mem_cons_of_mem _ hd)
    rw [List.map_cons, lcL_cons, h1]
    dsimp only
    rw [h2]
    cases hp : p a with
    | true =>
      obtain ⟨ρ3, h5, h6⟩ := h3 hp
      dsimp only
      rw [h5]
      dsimp only
      rw [h6, ih, M.bind_ok, List.filter_cons_of_pos hp, List.map_cons]
    | false =>
      dsimp only
      rw [h4 hp, ih, List.filter_cons_of_neg (by rw [hp]; exact Bool.false_ne_true)]
theorem lcL_map {α : Type} {vs : List Nat} {g : D → Rho → Option Rho} {oe : O D} {ρ : Rho} {k f : α → D} {l : List α}
    (h : ∀ a ∈ l, ∃ ρ1 ρ3, g (k a) ρ = some ρ1 ∧ oe ρ1 = .ok (f a) ρ3 ∧ wipeR ρ3 vs = ρ) : lcL vs g oYes oe (l.map k) ρ = .ok (l.map f) ρ := by
  rw [lcL_filter (p := fun _ => true) (f := f)]
  · rw [List.filter_eq_self.mpr (fun _ _ => rfl)]
  · intro d hd
    obtain ⟨ρ1, ρ3, h1, h2, h3⟩ := h d hd
    exact ⟨ρ1, ρ1, h1, rfl, fun _ => ⟨ρ3, h2, h3⟩, fun q => by cases q⟩
theorem lcL_inv {vs : List Nat} {g : D → Rho → Option Rho} {oe : O D} {P : D → Prop} (I : Rho → Prop) : ∀ {ds : List D} {ρ : Rho},
    (∀ d ∈ ds, ∀ ρ, I ρ → ∃ y ρ1 ρ3, g d ρ = some ρ1 ∧ oe ρ1 = .ok y ρ3 ∧ P y ∧ I (wipeR ρ3 vs)) → I ρ → ∃ ys ρ', lcL vs g oYes oe ds ρ = .ok ys ρ' ∧ I ρ' ∧ ys.length = ds.length ∧ ∀ y ∈ ys, P y
  | [], ρ, _, hi => ⟨[], ρ, rfl, hi, rfl, fun y hy => by cases hy⟩
  | d :: ds, ρ, h, hi => by
    obtain ⟨y, ρ1, ρ3, h1, h2, h3, h4⟩ := h d List.mem_cons_self ρ hi
    obtain ⟨ys, ρ', h5, h6, h7, h8⟩ := lcL_inv I (ds := ds) (fun d hd => h d (List.mem_cons_of_mem _ hd)) h4
    refine ⟨y :: ys, ρ', ?_, h6, by rw [List.length_cons, List.length_cons, h7], fun z hz => ?_⟩
    · rw [lcL_cons, h1]
      dsimp only
      rw [oYes_eq]
      dsimp only
      rw [h2]
      dsimp only
      rw [h5, M.bind_ok]
    · rcases List.mem_cons.mp hz with rfl | hz
      · exact h3
      · exact h8 z hz
/-- a loop that runs to its end -/
theorem forL_inv {g : D → Rho → Option Rho} {b : Os} (I : List D → Rho → Prop) : ∀ {ds : List D} {ρ : Rho},
    (∀ d r ρ, d ∈ ds → I (d :: r) ρ → ∃ ρ1 ρ2, g d ρ = some ρ1 ∧ (b ρ1 = .nx ρ2 ∨ b ρ1 = .ct ρ2) ∧ I r ρ2) → I ds ρ → ∃ ρ', forL g b ds ρ = .nx ρ' ∧ I [] ρ'
  | [], ρ, _, hi => ⟨ρ, rfl, hi⟩
  | d :: ds, ρ, h, hi => by
    obtain ⟨ρ1, ρ2, h1, h2, h3⟩ := h d ds ρ List.mem_cons_self hi
    obtain ⟨ρ', h5, h6⟩ := forL_inv I (ds := ds) (fun d r ρ hd => h d r ρ (List.mem_cons_of_mem _ hd)) h3
    refine ⟨ρ', ?_, h6⟩
    rw [forL_cons, h1]
    dsimp only
    rcases h2 with h2 | h2 <;> rw [h2] <;> exact h5
theorem forL_all {g : D → Rho → Option Rho} {b : Os} (I : Rho → Prop) {ds : List D} {ρ : Rho}
    (h : ∀ d ∈ ds, ∀ ρ, I ρ → ∃ ρ1 ρ2, g d ρ = some ρ1 ∧ b ρ1 = .nx ρ2 ∧ I ρ2) (hi : I ρ) : ∃ ρ', forL g b ds ρ = .nx ρ' ∧ I ρ' :=
  forL_inv (fun _ => I) (fun d r ρ hd hi => by obtain ⟨ρ1, ρ2, h1, h2, h3⟩ := h d hd ρ hi; exact ⟨ρ1, ρ2, h1, .inl h2, h3⟩) hi
theorem whl_inv {c : O Bool} {b : Os} (I E : Rho → Prop) (m : Rho → Nat) (h : ∀ ρ, I ρ → (∃ ρ1, c ρ = .ok false ρ1 ∧ E ρ1) ∨ (∃ ρ1 ρ2, c ρ = .ok true ρ1 ∧ (b ρ1 = .nx ρ2 ∨ b ρ1 = .ct ρ2) ∧ I ρ2 ∧ m ρ2 < m ρ)) :
    ∀ (n : Nat) (ρ : Rho), I ρ → m ρ < n → ∃ ρ', whl c b n ρ = .nx ρ' ∧ E ρ'
  | 0, ρ, _, hn => absurd hn (Nat.not_lt_zero _)
  | n + 1, ρ, hi, hn => by
    rw [whl_succ]
    rcases h ρ hi with ⟨ρ1, h1, h2⟩ | ⟨ρ1, ρ2, h1, h2, h3, h4⟩
    · rw [h1]
      exact ⟨ρ1, rfl, h2⟩
    · obtain ⟨ρ', h5, h6⟩ := whl_inv I E m h n ρ2 h3 (by omega)
      refine ⟨ρ', ?_, h6⟩
      rw [h1, M.bindS_ok, if_pos rfl]
      rcases h2 with h2 | h2 <;> rw [h2] <;> exact h5
theorem while_inv {c : O Bool} {b : Os} (I E : Rho → Prop) (m : Rho → Nat) {ρ : Rho} (hi : I ρ) (h : ∀ ρ, I ρ → (∃ ρ1, c ρ = .ok false ρ1 ∧ E ρ1) ∨ (∃ ρ1 ρ2, c ρ = .ok true ρ1 ∧ (b ρ1 = .nx ρ2 ∨ b ρ1 = .ct ρ2) ∧ I ρ2 ∧ m ρ2 < m ρ)) :
    ∃ ρ', oWhile c b ρ = .nx ρ' ∧ E ρ' := by
  obtain ⟨ρ', h1, h2⟩ := whl_inv I E m h (m ρ + 1) ρ hi (Nat.lt_succ_self _)
  exact ⟨ρ', oWhile_is _ h1 (by intro q; cases q), h2⟩
/-! ### data that compares -/
theorem lc1_eq (vs : List Nat) (g : D → Rho → Option Rho) (ot : O Bool) (oe : O D) (ds : List D) (ρ1 : Rho) : lc1 vs g ot oe ds ρ1 = if okW ρ1 vs = true ∧ ds.length ≤ 16000000 then lcE vs ρ1 (lcL vs g ot oe ds (wipeR ρ1 vs)) else .st := rfl
theorem inT_one (c : Nat) (y : Str) : inT ⟨#[c]⟩ y = decide (c ∈ y.cps.toList) := rfl
/-- a slot that may be written over -/
def okS (s : Option Sl) : Bool := match s with
  | some (.ow true _) => false
  | some _ => true
  | none => false
@[simp] theorem okS_no : okS (some .no) = true := rfl
@[simp] theorem okS_pu (d : D) : okS (some (.pu d)) = true := rfl
@[simp] theorem okS_ow (c : Ct) : okS (some (.ow false c)) = true := rfl
theorem setSl_ok (ρ : Rho) (i : Nat) (s : Sl) : setSl ρ i s = if okS ρ[i]? = true then some (ρ.set i s) else none := by
  unfold setSl okS
  cases ρ[i]? with
  | none => rfl
  | some t =>
    cases t with
    | ow p c => cases p <;> rfl
    | _ => rfl
def Nw (s : Sl) : Prop := okS (some s) = true
theorem nw_pu (d : D) : Nw (.pu d) := rfl
theorem nw_no : Nw .no := rfl
/-! ### dicts -/
section
variable {κ : Type} [DecidableEq κ]
theorem valD_nil (k : κ) : valD ([] : List (κ × D)) k = none := rfl
theorem valD_cons (p : κ × D) (kvs : List (κ × D)) (k : κ) : valD (p :: kvs) k = if p.1 = k then some p.2 else valD kvs k := by
  unfold valD
  rw [List.find?_cons]
  by_cases h : p.1 = k <;> simp [h]
theorem valD_map (kvs : List (κ × D)) (k k' : κ) (v : D) : valD (kvs.map fun kv => if kv.1 = k then (kv.1, v) else kv) k' = if k' = k then (valD kvs k').map (fun _ => v) else valD kvs k' := by
  induction kvs with
  | nil => by_cases h : k' = k <;> simp [valD_nil, h]
  | cons p r ih =>
    obtain ⟨p1, p2⟩ := p
    rw [List.map_cons, valD_cons, valD_cons, ih]
    by_cases h : p1 = k
    · subst h
      rw [if_pos rfl]
      dsimp only
      by_cases h2 : p1 = k'
      · subst h2; simp
      · have : ¬ k' = p1 := fun e => h2 e.symm
        simp [h2, this]
    · rw [if_neg h]
      dsimp only
      by_cases h2 : p1 = k'
      · subst h2
        simp [h]
      · simp [h2]
theorem valD_app (kvs : List (κ × D)) (k k' : κ) (v : D) : valD (kvs ++ [(k, v)]) k' = match valD kvs k' with | some d => some d | none => if k = k' then some v else none := by
  induction kvs with
  | nil => simp [valD_cons, valD_nil]
  | cons p r ih =>
    rw [List.cons_append, valD_cons, valD_cons, ih]
    by_cases h : p.1 = k' <;> simp [h]
theorem any_val (kvs : List (κ × D)) (k : κ) : (kvs.any fun kv => decide (kv.1 = k)) = (valD kvs k).isSome := by
  induction kvs with
  | nil => rfl
  | cons p r ih =>
    rw [List.any_cons, valD_cons, ih]
    by_cases h : p.1 = k <;> simp [h]
theorem valD_put (kvs : List (κ × D)) (k k' : κ) (v : D) : valD (putD kvs k v) k' = if k' = k then some v else valD kvs k' := by
  unfold putD
  rw [any_val]
  by_cases h : (valD kvs k).isSome = true
  · rw [if_pos h, valD_map]
    by_cases h2 : k' = k
    · subst h2
      rw [if_pos rfl, if_pos rfl]
      obtain ⟨d, hd⟩ := Option.isSome_iff_exists.mp h
      rw [hd]; try rfl
    · rw [if_neg h2]; try rw [if_neg h2]
  · rw [if_neg h, valD_app]
    have hn : valD kvs k = none := by simpa using h
    by_cases h2 : k' = k
    · subst h2
      simp [hn]
    · have : ¬ k = k' := fun e => h2 e.symm
      rw [if_neg h2]
      cases valD kvs k' <;> simp [this]
theorem putD_len (kvs : List (κ × D)) (k : κ) (v : D) : (putD kvs k v).length ≤ kvs.length + 1 := by
  unfold putD
  split
  · rw [List.length_map]; omega
  · rw [List.length_append]; exact Nat.le_refl _
end
section
variable (z : Sl) (ρ : Rho)
@[simp] theorem ctOf_rf (i : Nat) : ctOf (z :: ρ) (.rf i) = match (z :: ρ)[i]? with | some (.ow _ c) => some c | _ => none := rfl
@[simp] theorem vaDic_rf (i : Nat) : vaDic (z :: ρ) (.rf i) = isDic (z :: ρ)[i]? := rfl
@[simp] theorem isDic_dk (p : Bool) (kvs : List (Key × D)) : isDic (some (.ow p (.dk kvs))) = true := rfl
@[simp] theorem isDic_dt (p : Bool) (kvs : List (List Key × D)) : isDic (some (.ow p (.dt kvs))) = true := rfl
@[simp] theorem isDic_li (p : Bool) (xs : List D) : isDic (some (.ow p (.li xs))) = false := rfl
@[simp] theorem isDic_pu (d : D) : isDic (some (.pu d)) = false := rfl
@[simp] theorem dGet_dk (kvs : List (Key × D)) (k : D) : dGet (.dk kvs) k = (keyOf k).map (valD kvs) := rfl
@[simp] theorem dGet_dt (kvs : List (List Key × D)) (k : D) : dGet (.dt kvs) k = (tkOf k).map (valD kvs) := rfl
@[simp] theorem keyOf_s (x : Str) : keyOf (.str x) = some (.inr x) := rfl
@[simp] theorem keyOf_i (i : Int) : keyOf (.int i) = some (.inl i) := rfl
@[simp] theorem dPut_dk (kvs : List (Key × D)) (k v : D) : dPut (.dk kvs) k v = if kvs.length < 16000000 then (keyOf k).map fun k => .dk (putD kvs k v) else none := rfl
@[simp] theorem dPut_dt (kvs : List (List Key × D)) (k v : D) : dPut (.dt kvs) k v = if kvs.length < 16000000 then (tkOf k).map fun k => .dt (putD kvs k v) else none := rfl
@[simp] theorem stD1_eq (k : Nat) (d i : D) : stD1 k d i (z :: ρ) = match (z :: ρ)[k]? with
  | some (.ow p c) => (match dPut c i d with
    | some c' => .nx ((z :: ρ).set k (.ow p c'))
    | none => .st)
  | _ => .st := rfl
@[simp] theorem inA1_rf (neg : Bool) (a : Va) (i : Nat) : inA1 neg a (.rf i) (z :: ρ) = if isDic (z :: ρ)[i]? = true then din1 neg a (.rf i) (z :: ρ) else bin1 (fIn neg) a (.rf i) (z :: ρ) := rfl
@[simp] theorem din1_eq (neg : Bool) (a b : Va) : din1 neg a b (z :: ρ) = match rdV (z :: ρ) a, ctOf (z :: ρ) b with
  | some k, some c => (match dGet c k with
    | some o => .ok (.pu (.bool (if neg then !o.isSome else o.isSome))) (z :: ρ)
    | none => .st)
  | _, _ => .st := rfl
@[simp] theorem ixA1_rf (b : Va) (i : Nat) : ixA1 (.rf i) b (z :: ρ) = if isDic (z :: ρ)[i]? = true then dix1 (.rf i) b (z :: ρ) else bin1 fIx (.rf i) b (z :: ρ) := rfl
@[simp] theorem dix1_eq (a b : Va) : dix1 a b (z :: ρ) = match ctOf (z :: ρ) a, rdV (z :: ρ) b with
  | some c, some k => (match dGet c k with
    | some (some d) => .ok (.pu d) (z :: ρ)
    | _ => .st)
  | _, _ => .st := rfl
@[simp] theorem f_inK (neg : Bool) (x : D) (ys : List D) : fIn neg x (.dict [(.bool true, .tuple ys)]) = if flatD x = true ∧ ys.all flatD = true then some (.pu (.bool (if neg then !inD x ys else inD x ys))) else none := by cases x <;> rfl
@[simp] theorem f_inL (neg : Bool) (x : D) (ys : List D) : fIn neg x (.list ys) = if flatD x = true ∧ ys.all flatD = true then some (.pu (.bool (if neg then !inD x ys else inD x ys))) else none := by cases x <;> rfl
@[simp] theorem f_inTu (neg : Bool) (x : D) (ys : List D) : fIn neg x (.tuple ys) = if flatD x = true ∧ ys.all flatD = true then some (.pu (.bool (if neg then !inD x ys else inD x ys))) else none := by cases x <;> rfl
end
end Ow
namespace K01
open PySem PySem.Spec PyProof.Rows L2 Ow
def top (i : Nat) : Stmt := PySem.Challenge.pw_wiredossier_k01_tokens.main.body.getD i (.Pass ⟨0, 0, 0, 0⟩)
abbrev FnP (K : PySem.W.Frag) (x : Str) (st : Stmt) (f : Addr) (fd : FuncData) : Prop := FunD K x x (defArgs st) (defBody st) (defScope st) [] [] f fd
def d_RESERVED : D := kon [(.str "module"), (.str "in"), (.str "out"), (.str "wire"), (.str "reg"), (.str "then"), (.str "mem"), (.str "when"), (.str "at"), (.str "put"), (.str "machine"), (.str "to"), (.str "slot"), (.str "take"), (.str "use"), (.str "chain"), (.str "from"), (.str "word"), (.str "part"), (.str "read"), (.str "is"), (.str "plus"), (.str "times"), (.str "not"), (.str "any"), (.str "and"), (.str "or"), (.str "xor"), (.str "add"), (.str "sub"), (.str "eq"), (.str "lt"), (.str "join"), (.str "pick")]
structure Mg (K : PySem.W.Frag) (mg : Str → Option Value) : Prop where
  f_abs : mg "abs" = none
  f_all : mg "all" = none
  f_bool : mg "bool" = none
  f_int : mg "int" = none
  f_isinstance : mg "isinstance" = none
  f_len : mg "len" = none
  f_list : mg "list" = none
  f_range : mg "range" = none
  f_str : mg "str" = none
  f_tuple : mg "tuple" = none
  k_DIGITS : Kn K mg "DIGITS" (.str "0123456789")
  k_RESERVED : Kn K mg "RESERVED" d_RESERVED
  k_RUN : Kn K mg "RUN" (.str "abcdefghijklmnopqrstuvwxyzABCDEFGHIJKLMNOPQRSTUVWXYZ0123456789")
  k_SMALL : Kn K mg "SMALL" (.str "abcdefghijklmnopqrstuvwxyz")
/-! tokens_of: 0 text, 1 tokens, 2 at, 3 end -/
abbrev s_tokens_of : Stmt := top 5
abbrev N_tokens_of : List Str := ["text", "tokens", "at", "end"]
theorem sc_tokens_of : FnScope ["text", "tokens", "at", "end"] ["text"] (defScope s_tokens_of) := ⟨rfl, rfl, rfl, by decide +kernel, rfl, by decide +kernel, by decide +kernel⟩
noncomputable def b_tokens_of : Os := (oSeq (oSet 1 (oLst oNil))
 (oSeq (oSet 2 (oRes (oC (.int 0))))
 (oSeq (oWhile (oTst (oBin fLt (oVar 2) (oPu (oFrz (oLen (oVar 0))))))
 (oSeq (oSet 3 (oBin fAdd (oVar 2) (oPu (oC (.int 1)))))
 (oSeq (oIfS (oTst (oBin (fIn false) (oPu (oFrz (oBin fIx (oVar 0) (oVar 2)))) (oPu (oC (.str "abcdefghijklmnopqrstuvwxyzABCDEFGHIJKLMNOPQRSTUVWXYZ0123456789")))))
 (oSeq (oWhile (oAnd (oTst (oBin fLt (oVar 3) (oPu (oFrz (oLen (oVar 0)))))) (oTst (oBin (fIn false) (oPu (oFrz (oBin fIx (oVar 0) (oVar 3)))) (oPu (oC (.str "abcdefghijklmnopqrstuvwxyzABCDEFGHIJKLMNOPQRSTUVWXYZ0123456789"))))))
 (oAug 3 (fInt2 fun i j => i + j) (oPu (oC (.int 1)))))
 (oDrop (oPu (oMutK 1 fAppend (oCons (oFrz (oSl (oVar 0) (oPart (oKeep (oVar 2))) (oPart (oKeep (oVar 3))))) oNil)))))
 (oIfS (oAnd (oTst (oBin fNe (oPu (oFrz (oBin fIx (oVar 0) (oVar 2)))) (oPu (oC (.str " "))))) (oTst (oBin fNe (oPu (oFrz (oBin fIx (oVar 0) (oVar 2)))) (oPu (oC (.str "\n"))))))
 (oDrop (oPu (oMutK 1 fAppend (oCons (oFrz (oBin fIx (oVar 0) (oVar 2))) oNil))))
 oNext))
 (oSet 2 (oRes (oKeep (oVar 3)))))))
 (oRet (oCB fTuple (oCons (oVar 1) oNil))))))
noncomputable def g_tokens_of : Fn := fnOf 4 b_tokens_of
theorem ok_tokens_of {P : Program} {w : World} {K : PySem.W.Frag} {mg : Str → Option Value} {base : Heap} {f : Addr} {fd : FuncData} (M : Mg K mg) (F : FnP K "tokens_of" s_tokens_of f fd) : FnOk P w K mg base CX0 1 f fd ["text"] (spD K 1 g_tokens_of) :=
  fn_ok F sc_tokens_of (by decide) (fun cdv A outer s H E hr G =>
  (bd_cons (sd_set 1 (rd_lst qd_nil) sc_tokens_of.nd)
 (bd_cons (sd_set 2 (rd_pd pd_int) sc_tokens_of.nd)
 (bd_cons (sd_while PassesOwn.never (td_ck ck_lt (ed_var 2) (ed_pd (pd_rd (rd_len rfl M.f_len (ed_var 0)))))
 (bd_cons (sd_set 3 (rd_add (ed_var 2) (ed_pd pd_int)) sc_tokens_of.nd)
 (bd_cons (sd_if (td_ck ck_in (ed_pd (pd_rd (rd_ix (ed_var 0) (ed_var 2)))) (ed_pd (pd_kn rfl M.k_RUN)))
 (bd_cons (sd_while PassesOwn.never (td_w (wd_and (td_ck ck_lt (ed_var 3) (ed_pd (pd_rd (rd_len rfl M.f_len (ed_var 0))))) (wd_and1 (td_ck ck_in (ed_pd (pd_rd (rd_ix (ed_var 0) (ed_var 3)))) (ed_pd (pd_kn rfl M.k_RUN))))))
 (bd_one (sd_aug 3 ak_add (ed_pd pd_int) sc_tokens_of.nd)))
 (bd_one (sd_expr (ed_pd (zl_append 1 (qd_cons (pd_rd (rd_sl (ed_var 0) (od_some (pd_ed (ed_var 2))) (od_some (pd_ed (ed_var 3))))) qd_nil))))))
 (bd_one (sd_if (td_w (wd_and (td_ck (ck_ne hr) (ed_pd (pd_rd (rd_ix (ed_var 0) (ed_var 2)))) (ed_pd pd_str)) (wd_and1 (td_ck (ck_ne hr) (ed_pd (pd_rd (rd_ix (ed_var 0) (ed_var 2)))) (ed_pd pd_str)))))
 (bd_one (sd_expr (ed_pd (zl_append 1 (qd_cons (pd_rd (rd_ix (ed_var 0) (ed_var 2))) qd_nil)))))
 bd_nil)))
 (bd_one (sd_set 2 (rd_pd (pd_ed (ed_var 3))) sc_tokens_of.nd)))))
 (bd_one (sd_ret (zb_tuple rfl M.f_tuple (ad_cons (ed_var 1) ad_nil))))))))
/-! fits_name: 0 token, 1 sign -/
abbrev s_fits_name : Stmt := top 6
abbrev N_fits_name : List Str := ["token", "sign"]
theorem sc_fits_name : FnScope ["token", "sign"] ["token"] (defScope s_fits_name) := ⟨rfl, rfl, rfl, by decide +kernel, rfl, by decide +kernel, by decide +kernel⟩
noncomputable def b_fits_name : Os := (oSeq (oIfS (oOr (oNot (oTst (oChain fLe fLe (oPu (oC (.int 1))) (oPu (oFrz (oLen (oVar 0)))) (oPu (oC (.int 8)))))) (oOr (oTst (oBin (fIn true) (oPu (oFrz (oBin fIx (oVar 0) (oPu (oC (.int 0)))))) (oPu (oC (.str "abcdefghijklmnopqrstuvwxyz"))))) (oTst (oBin (fIn false) (oVar 0) (oPu (oC d_RESERVED))))))
 (oRet (oRes (oC (.bool false))))
 oNext)
 (oRet (oCB fAll (oCons (oPu (oFrz (oLc [1] (oItm (oVar 0)) (gNm 1) oYes (oOrV (oFrz (oBin (fIn false) (oVar 1) (oPu (oC (.str "abcdefghijklmnopqrstuvwxyz"))))) (oFrz (oBin (fIn false) (oVar 1) (oPu (oC (.str "0123456789"))))))))) oNil))))
noncomputable def g_fits_name : Fn := fnOf 2 b_fits_name
theorem ok_fits_name {P : Program} {w : World} {K : PySem.W.Frag} {mg : Str → Option Value} {base : Heap} {f : Addr} {fd : FuncData} (M : Mg K mg) (F : FnP K "fits_name" s_fits_name f fd) : FnOk P w K mg base CX0 1 f fd ["token"] (spD K 1 g_fits_name) :=
  fn_ok F sc_fits_name (by decide) (fun cdv A outer s H E hr G =>
  (bd_cons (sd_if (td_w (wd_or (td_not (td_chain ck_le ck_le (ed_pd pd_int) (ed_pd (pd_rd (rd_len rfl M.f_len (ed_var 0)))) (ed_pd pd_int))) (wd_or (td_ck ck_notin (ed_pd (pd_rd (rd_ix (ed_var 0) (ed_pd pd_int)))) (ed_pd (pd_kn rfl M.k_SMALL))) (wd_or1 (td_ck ck_in (ed_var 0) (ed_pd (pd_kn rfl M.k_RESERVED)))))))
 (bd_one (sd_ret (rd_pd pd_bool)))
 bd_nil)
 (bd_one (sd_ret (zb_all rfl rfl M.f_all (ad_cons (ed_pd (pd_rd (rd_lc (own := [("sign", 1)]) (T := [1]) rfl sc_fits_name.nd (by decide) (id_seq (ed_var 0)) (blkOk_by (N := N_fits_name) (sc := defScope s_fits_name) (by decide +kernel)) (fun _ _ _ _ _ _ => (gd_name 1 sc_fits_name.nd)) (fun _ _ _ _ _ _ => tsd_nil) (fun _ _ _ _ _ _ => (pd_or (pd_rd (rd_ck ck_in (ed_var 1) (ed_pd (pd_kn rfl M.k_SMALL)))) (pd_one (pd_rd (rd_ck ck_in (ed_var 1) (ed_pd (pd_kn rfl M.k_DIGITS)))))))))) ad_nil))))))
/-! fits_number: 0 token, 1 sign -/
abbrev s_fits_number : Stmt := top 7
abbrev N_fits_number : List Str := ["token", "sign"]
theorem sc_fits_number : FnScope ["token", "sign"] ["token"] (defScope s_fits_number) := ⟨rfl, rfl, rfl, by decide +kernel, rfl, by decide +kernel, by decide +kernel⟩
noncomputable def b_fits_number : Os := (oSeq (oIfS (oOr (oNot (oTst (oChain fLe fLe (oPu (oC (.int 1))) (oPu (oFrz (oLen (oVar 0)))) (oPu (oC (.int 3)))))) (oNot (oTst (oCB fAll (oCons (oPu (oFrz (oLc [1] (oItm (oVar 0)) (gNm 1) oYes (oFrz (oBin (fIn false) (oVar 1) (oPu (oC (.str "0123456789")))))))) oNil)))))
 (oRet (oRes (oC (.bool false))))
 oNext)
 (oSeq (oIfS (oAnd (oTst (oBin fEq (oPu (oFrz (oBin fIx (oVar 0) (oPu (oC (.int 0)))))) (oPu (oC (.str "0"))))) (oTst (oBin fGt (oPu (oFrz (oLen (oVar 0)))) (oPu (oC (.int 1))))))
 (oRet (oRes (oC (.bool false))))
 oNext)
 (oRet (oBin fLe (oPu (oFrz (oCB fIntX (oCons (oVar 0) oNil)))) (oPu (oC (.int 255)))))))
noncomputable def g_fits_number : Fn := fnOf 2 b_fits_number
theorem ok_fits_number {P : Program} {w : World} {K : PySem.W.Frag} {mg : Str → Option Value} {base : Heap} {f : Addr} {fd : FuncData} (M : Mg K mg) (F : FnP K "fits_number" s_fits_number f fd) : FnOk P w K mg base CX0 1 f fd ["token"] (spD K 1 g_fits_number) :=
  fn_ok F sc_fits_number (by decide) (fun cdv A outer s H E hr G =>
  (bd_cons (sd_if (td_w (wd_or (td_not (td_chain ck_le ck_le (ed_pd pd_int) (ed_pd (pd_rd (rd_len rfl M.f_len (ed_var 0)))) (ed_pd pd_int))) (wd_or1 (td_not (td_rd (zb_all rfl rfl M.f_all (ad_cons (ed_pd (pd_rd (rd_lc (own := [("sign", 1)]) (T := [1]) rfl sc_fits_number.nd (by decide) (id_seq (ed_var 0)) (blkOk_by (N := N_fits_number) (sc := defScope s_fits_number) (by decide +kernel)) (fun _ _ _ _ _ _ => (gd_name 1 sc_fits_number.nd)) (fun _ _ _ _ _ _ => tsd_nil) (fun _ _ _ _ _ _ => (pd_rd (rd_ck ck_in (ed_var 1) (ed_pd (pd_kn rfl M.k_DIGITS)))))))) ad_nil)))))))
 (bd_one (sd_ret (rd_pd pd_bool)))
 bd_nil)
 (bd_cons (sd_if (td_w (wd_and (td_ck (ck_eq hr) (ed_pd (pd_rd (rd_ix (ed_var 0) (ed_pd pd_int)))) (ed_pd pd_str)) (wd_and1 (td_ck ck_gt (ed_pd (pd_rd (rd_len rfl M.f_len (ed_var 0)))) (ed_pd pd_int)))))
 (bd_one (sd_ret (rd_pd pd_bool)))
 bd_nil)
 (bd_one (sd_ret (rd_ck ck_le (ed_pd (pd_rd (zb_int rfl M.f_int (ad_cons (ed_var 0) ad_nil)))) (ed_pd pd_int)))))))
/-! _law_begin: 0 script, 1 cell -/
abbrev s__law_begin : Stmt := top 9
abbrev N__law_begin : List Str := ["script", "cell"]
theorem sc__law_begin : FnScope ["script", "cell"] ["script"] (defScope s__law_begin) := ⟨rfl, rfl, rfl, by decide +kernel, rfl, by decide +kernel, by decide +kernel⟩
noncomputable def b__law_begin : Os := (oRet (oLst (oCons (oFrz (oLc [1] (oItm (oVar 0)) (gNm 1) oYes (oFrz (oCB fIntX (oCons (oVar 1) oNil))))) (oCons (oC (.int 0)) (oCons (oC (.int 0)) (oCons (oC (.int 7)) (oCons (oC (.int 3)) oNil)))))))
noncomputable def g__law_begin : Fn := fnOf 2 b__law_begin
theorem ok__law_begin {P : Program} {w : World} {K : PySem.W.Frag} {mg : Str → Option Value} {base : Heap} {f : Addr} {fd : FuncData} (M : Mg K mg) (F : FnP K "_law_begin" s__law_begin f fd) : FnOk P w K mg base CX0 1 f fd ["script"] (spD K 1 g__law_begin) :=
  fn_ok F sc__law_begin (by decide) (fun cdv A outer s H E hr G =>
  (bd_one (sd_ret (rd_lst (qd_cons (pd_rd (rd_lc (own := [("cell", 1)]) (T := [1]) rfl sc__law_begin.nd (by decide) (id_seq (ed_var 0)) (blkOk_by (N := N__law_begin) (sc := defScope s__law_begin) (by decide +kernel)) (fun _ _ _ _ _ _ => (gd_name 1 sc__law_begin.nd)) (fun _ _ _ _ _ _ => tsd_nil) (fun _ _ _ _ _ _ => (pd_rd (zb_int rfl M.f_int (ad_cons (ed_var 1) ad_nil)))))) (qd_cons pd_int (qd_cons pd_int (qd_cons pd_int (qd_cons pd_int qd_nil)))))))))
/-! _law_draw: 0 d, 1 many, 2 size, 3 found, 4 cell -/
abbrev s__law_draw : Stmt := top 10
abbrev N__law_draw : List Str := ["d", "many", "size", "found", "cell"]
theorem sc__law_draw : FnScope ["d", "many", "size", "found", "cell"] ["d", "many"] (defScope s__law_draw) := ⟨rfl, rfl, rfl, by decide +kernel, rfl, by decide +kernel, by decide +kernel⟩
noncomputable def b__law_draw : Os := (oSeq (oIfS (oTst (oBin fGt (oPu (oFrz (oBin fIx (oVar 0) (oPu (oC (.int 2)))))) (oPu (oC (.int 0)))))
 (oSeq (oSet 3 (oBin fIx (oVar 0) (oPu (oC (.int 2)))))
 (oSeq (oStL 0 (oFrz (oBin fDiv (oVar 3) (oVar 1))) (oC (.int 2)))
 (oRet (oBin fMod (oPu (oFrz (oCB fIntX (oCons (oVar 3) oNil)))) (oVar 1)))))
 oNext)
 (oSeq (oSet 2 (oRes (oC (.int 0))))
 (oSeq (oIfS (oTst (oBin fLt (oPu (oFrz (oBin fIx (oVar 0) (oPu (oC (.int 1)))))) (oPu (oFrz (oLen (oPu (oFrz (oBin fIx (oVar 0) (oPu (oC (.int 0)))))))))))
 (oSeq (oSet 4 (oBin fIx (oPu (oFrz (oBin fIx (oVar 0) (oPu (oC (.int 0)))))) (oPu (oFrz (oBin fIx (oVar 0) (oPu (oC (.int 1))))))))
 (oSet 2 (oBin fAdd (oPu (oFrz (oBin fMulX (oPu (oC (.int 2))) (oPu (oFrz (oCB fAbs (oCons (oVar 4) oNil))))))) (oPu (oFrz (oCB fIntX (oCons (oPu (oFrz (oBin fLt (oVar 4) (oPu (oC (.int 0)))))) oNil)))))))
 oNext)
 (oSeq (oAuL 0 (fInt2 fun i j => i + j) (oC (.int 1)) (oC (.int 1)))
 (oSeq (oIfS (oTst (oBin fGe (oVar 2) (oPu (oFrz (oBin fMulX (oPu (oC (.int 2))) (oPu (oFrz (oBin fPow (oPu (oC (.int 10))) (oPu (oC (.int 18)))))))))))
 (oSeq (oSet 3 (oBin fMod (oPu (oFrz (oCB fIntX (oCons (oPu (oFrz (oBin fDiv (oVar 2) (oPu (oC (.int 2)))))) oNil)))) (oPu (oFrz (oBin fShl (oPu (oC (.int 1))) (oPu (oC (.int 6000))))))))
 (oSeq (oStL 0 (oFrz (oBin fDiv (oVar 3) (oVar 1))) (oC (.int 2)))
 (oRet (oBin fMod (oPu (oFrz (oCB fIntX (oCons (oVar 3) oNil)))) (oVar 1)))))
 oNext)
 (oSeq (oStL 0 (oFrz (oBin fMod (oPu (oFrz (oCB fIntX (oCons (oPu (oFrz (oBin fAdd (oPu (oFrz (oBin fAdd (oPu (oFrz (oBin fAdd (oPu (oFrz (oBin fMulX (oPu (oFrz (oBin fIx (oVar 0) (oPu (oC (.int 3)))))) (oPu (oC (.int 48271)))))) (oPu (oFrz (oBin fMulX (oPu (oFrz (oBin fMod (oPu (oFrz (oCB fIntX (oCons (oVar 2) oNil)))) (oPu (oC (.int 2147483629)))))) (oPu (oC (.int 16807))))))))) (oPu (oFrz (oBin fMulX (oPu (oFrz (oBin fIx (oVar 0) (oPu (oC (.int 1)))))) (oPu (oC (.int 69621))))))))) (oPu (oC (.int 11)))))) oNil)))) (oPu (oC (.int 2147483647))))) (oC (.int 3)))
 (oRet (oBin fMod (oPu (oFrz (oCB fIntX (oCons (oPu (oFrz (oBin fDiv (oPu (oFrz (oBin fIx (oVar 0) (oPu (oC (.int 3)))))) (oPu (oC (.int 16)))))) oNil)))) (oVar 1)))))))))
noncomputable def g__law_draw : Fn := fnOf 5 b__law_draw
theorem ok__law_draw {P : Program} {w : World} {K : PySem.W.Frag} {mg : Str → Option Value} {base : Heap} {f : Addr} {fd : FuncData} (M : Mg K mg) (F : FnP K "_law_draw" s__law_draw f fd) : FnOk P w K mg base CX0 1 f fd ["d", "many"] (spD K 2 g__law_draw) :=
  fn_ok F sc__law_draw (by decide) (fun cdv A outer s H E hr G =>
  (bd_cons (sd_if (td_ck ck_gt (ed_pd (pd_rd (rd_ix (ed_var 0) (ed_pd pd_int)))) (ed_pd pd_int))
 (bd_cons (sd_set 3 (rd_ix (ed_var 0) (ed_pd pd_int)) sc__law_draw.nd)
 (bd_cons (sd_stL 0 (pd_rd (rd_fdiv (ed_var 3) (ed_var 1))) pd_int)
 (bd_one (sd_ret (rd_mod (ed_pd (pd_rd (zb_int rfl M.f_int (ad_cons (ed_var 3) ad_nil)))) (ed_var 1))))))
 bd_nil)
 (bd_cons (sd_set 2 (rd_pd pd_int) sc__law_draw.nd)
 (bd_cons (sd_if (td_ck ck_lt (ed_pd (pd_rd (rd_ix (ed_var 0) (ed_pd pd_int)))) (ed_pd (pd_rd (rd_len rfl M.f_len (ed_pd (pd_rd (rd_ix (ed_var 0) (ed_pd pd_int))))))))
 (bd_cons (sd_set 4 (rd_ix (ed_pd (pd_rd (rd_ix (ed_var 0) (ed_pd pd_int)))) (ed_pd (pd_rd (rd_ix (ed_var 0) (ed_pd pd_int))))) sc__law_draw.nd)
 (bd_one (sd_set 2 (rd_add (ed_pd (pd_rd (rd_mulX (ed_pd pd_int) (ed_pd (pd_rd (zb_abs rfl M.f_abs (ad_cons (ed_var 4) ad_nil))))))) (ed_pd (pd_rd (zb_int rfl M.f_int (ad_cons (ed_pd (pd_rd (rd_ck ck_lt (ed_var 4) (ed_pd pd_int)))) ad_nil))))) sc__law_draw.nd)))
 bd_nil)
 (bd_cons (sd_auL 0 ak_add pd_int pd_int)
 (bd_cons (sd_if (td_ck ck_ge (ed_var 2) (ed_pd (pd_rd (rd_mulX (ed_pd pd_int) (ed_pd (pd_rd (rd_pow (ed_pd pd_int) (ed_pd pd_int))))))))
 (bd_cons (sd_set 3 (rd_mod (ed_pd (pd_rd (zb_int rfl M.f_int (ad_cons (ed_pd (pd_rd (rd_fdiv (ed_var 2) (ed_pd pd_int)))) ad_nil)))) (ed_pd (pd_rd (rd_shl (ed_pd pd_int) (ed_pd pd_int))))) sc__law_draw.nd)
 (bd_cons (sd_stL 0 (pd_rd (rd_fdiv (ed_var 3) (ed_var 1))) pd_int)
 (bd_one (sd_ret (rd_mod (ed_pd (pd_rd (zb_int rfl M.f_int (ad_cons (ed_var 3) ad_nil)))) (ed_var 1))))))
 bd_nil)
 (bd_cons (sd_stL 0 (pd_rd (rd_mod (ed_pd (pd_rd (zb_int rfl M.f_int (ad_cons (ed_pd (pd_rd (rd_add (ed_pd (pd_rd (rd_add (ed_pd (pd_rd (rd_add (ed_pd (pd_rd (rd_mulX (ed_pd (pd_rd (rd_ix (ed_var 0) (ed_pd pd_int)))) (ed_pd pd_int)))) (ed_pd (pd_rd (rd_mulX (ed_pd (pd_rd (rd_mod (ed_pd (pd_rd (zb_int rfl M.f_int (ad_cons (ed_var 2) ad_nil)))) (ed_pd pd_int)))) (ed_pd pd_int))))))) (ed_pd (pd_rd (rd_mulX (ed_pd (pd_rd (rd_ix (ed_var 0) (ed_pd pd_int)))) (ed_pd pd_int))))))) (ed_pd pd_int)))) ad_nil)))) (ed_pd pd_int))) pd_int)
 (bd_one (sd_ret (rd_mod (ed_pd (pd_rd (zb_int rfl M.f_int (ad_cons (ed_pd (pd_rd (rd_fdiv (ed_pd (pd_rd (rd_ix (ed_var 0) (ed_pd pd_int)))) (ed_pd pd_int)))) ad_nil)))) (ed_var 1)))))))))))
/-! _law_pick: 0 d, 1 row -/
abbrev s__law_pick : Stmt := top 11
abbrev N__law_pick : List Str := ["d", "row"]
theorem sc__law_pick : FnScope ["d", "row"] ["d", "row"] (defScope s__law_pick) := ⟨rfl, rfl, rfl, by decide +kernel, rfl, by decide +kernel, by decide +kernel⟩
noncomputable def b__law_pick : Os := (oRet (oBin fIx (oVar 1) (oPu (oFrz (oCall g__law_draw (oCons (oVar 0) (oCons (oPu (oFrz (oLen (oVar 1)))) oNil)))))))
noncomputable def g__law_pick : Fn := fnOf 2 b__law_pick
theorem ok__law_pick {P : Program} {w : World} {K : PySem.W.Frag} {mg : Str → Option Value} {base : Heap} {f : Addr} {fd : FuncData} (M : Mg K mg) (F : FnP K "_law_pick" s__law_pick f fd) (c__law_draw : Cal P w K mg base 1 "_law_draw" ["d", "many"] g__law_draw) : FnOk P w K mg base CX0 2 f fd ["d", "row"] (spD K 2 g__law_pick) :=
  fn_ok F sc__law_pick (by decide) (fun cdv A outer s H E hr G =>
  (bd_one (sd_ret (rd_ix (ed_var 1) (ed_pd (pd_rd (rd_cal c__law_draw hr (by decide) rfl (ad_cons (ed_var 0) (ad_cons (ed_pd (pd_rd (rd_len rfl M.f_len (ed_var 1)))) ad_nil)) (many_cons (many_cons many_nil)))))))))
/-! _law_rare: 0 d, 1 many -/
abbrev s__law_rare : Stmt := top 12
abbrev N__law_rare : List Str := ["d", "many"]
theorem sc__law_rare : FnScope ["d", "many"] ["d", "many"] (defScope s__law_rare) := ⟨rfl, rfl, rfl, by decide +kernel, rfl, by decide +kernel, by decide +kernel⟩
noncomputable def b__law_rare : Os := (oRet (oBin fEq (oPu (oFrz (oCall g__law_draw (oCons (oVar 0) (oCons (oPu (oKeep (oVar 1))) oNil))))) (oPu (oFrz (oBin fDiv (oVar 1) (oPu (oC (.int 2))))))))
noncomputable def g__law_rare : Fn := fnOf 2 b__law_rare
theorem ok__law_rare {P : Program} {w : World} {K : PySem.W.Frag} {mg : Str → Option Value} {base : Heap} {f : Addr} {fd : FuncData} (M : Mg K mg) (F : FnP K "_law_rare" s__law_rare f fd) (c__law_draw : Cal P w K mg base 1 "_law_draw" ["d", "many"] g__law_draw) : FnOk P w K mg base CX0 2 f fd ["d", "many"] (spD K 2 g__law_rare) :=
  fn_ok F sc__law_rare (by decide) (fun cdv A outer s H E hr G =>
  (bd_one (sd_ret (rd_ck (ck_eq hr) (ed_pd (pd_rd (rd_cal c__law_draw hr (by decide) rfl (ad_cons (ed_var 0) (ad_cons (ed_pd (pd_ed (ed_var 1))) ad_nil)) (many_cons (many_cons many_nil))))) (ed_pd (pd_rd (rd_fdiv (ed_var 1) (ed_pd pd_int))))))))
/-! _law_letters:  -/
abbrev s__law_letters : Stmt := top 13
abbrev N__law_letters : List Str := []
theorem sc__law_letters : FnScope [] [] (defScope s__law_letters) := ⟨rfl, rfl, rfl, by decide +kernel, rfl, by decide +kernel, by decide +kernel⟩
noncomputable def b__law_letters : Os := (oRet (oRes (oC (.str "abcdefghijklmnopqrstuvwxyz"))))
noncomputable def g__law_letters : Fn := fnOf 0 b__law_letters
theorem ok__law_letters {P : Program} {w : World} {K : PySem.W.Frag} {mg : Str → Option Value} {base : Heap} {f : Addr} {fd : FuncData} (M : Mg K mg) (F : FnP K "_law_letters" s__law_letters f fd) : FnOk P w K mg base CX0 1 f fd [] (spD K 0 g__law_letters) :=
  fn_ok F sc__law_letters (by decide) (fun cdv A outer s H E hr G =>
  (bd_one (sd_ret (rd_pd pd_str))))
/-! _law_capitals:  -/
abbrev s__law_capitals : Stmt := top 14
abbrev N__law_capitals : List Str := []
theorem sc__law_capitals : FnScope [] [] (defScope s__law_capitals) := ⟨rfl, rfl, rfl, by decide +kernel, rfl, by decide +kernel, by decide +kernel⟩
noncomputable def b__law_capitals : Os := (oRet (oRes (oC (.str "ABCDEFGHIJKLMNOPQRSTUVWXYZ"))))
noncomputable def g__law_capitals : Fn := fnOf 0 b__law_capitals
theorem ok__law_capitals {P : Program} {w : World} {K : PySem.W.Frag} {mg : Str → Option Value} {base : Heap} {f : Addr} {fd : FuncData} (M : Mg K mg) (F : FnP K "_law_capitals" s__law_capitals f fd) : FnOk P w K mg base CX0 1 f fd [] (spD K 0 g__law_capitals) :=
  fn_ok F sc__law_capitals (by decide) (fun cdv A outer s H E hr G =>
  (bd_one (sd_ret (rd_pd pd_str))))
/-! _law_signs:  -/
abbrev s__law_signs : Stmt := top 15
abbrev N__law_signs : List Str := []
theorem sc__law_signs : FnScope [] [] (defScope s__law_signs) := ⟨rfl, rfl, rfl, by decide +kernel, rfl, by decide +kernel, by decide +kernel⟩
noncomputable def b__law_signs : Os := (oRet (oRes (oC (.str "!\"#$&'()*+,-./:;<=>?\x40[\\]^_`{|}~"))))
noncomputable def g__law_signs : Fn := fnOf 0 b__law_signs
theorem ok__law_signs {P : Program} {w : World} {K : PySem.W.Frag} {mg : Str → Option Value} {base : Heap} {f : Addr} {fd : FuncData} (M : Mg K mg) (F : FnP K "_law_signs" s__law_signs f fd) : FnOk P w K mg base CX0 1 f fd [] (spD K 0 g__law_signs) :=
  fn_ok F sc__law_signs (by decide) (fun cdv A outer s H E hr G =>
  (bd_one (sd_ret (rd_pd pd_str))))
/-! _law_reserved: 0 text -/
abbrev s__law_reserved : Stmt := top 16
abbrev N__law_reserved : List Str := ["text"]
theorem sc__law_reserved : FnScope ["text"] [] (defScope s__law_reserved) := ⟨rfl, rfl, rfl, by decide +kernel, rfl, by decide +kernel, by decide +kernel⟩
noncomputable def b__law_reserved : Os := (oSeq (oSet 0 (oRes (oC (.str "module in out wire reg then mem when at put machine to slot take use chain from word part read is plus "))))
 (oRet (oBM "str" fSplit (oPu (oFrz (oBin fAdd (oVar 0) (oPu (oC (.str "times not any and or xor add sub eq lt join pick")))))) (oCons (oPu (oC (.str " "))) oNil))))
noncomputable def g__law_reserved : Fn := fnOf 1 b__law_reserved
theorem ok__law_reserved {P : Program} {w : World} {K : PySem.W.Frag} {mg : Str → Option Value} {base : Heap} {f : Addr} {fd : FuncData} (M : Mg K mg) (F : FnP K "_law_reserved" s__law_reserved f fd) : FnOk P w K mg base CX0 1 f fd [] (spD K 0 g__law_reserved) :=
  fn_ok F sc__law_reserved (by decide) (fun cdv A outer s H E hr G =>
  (bd_cons (sd_set 0 (rd_pd pd_str) sc__law_reserved.nd)
 (bd_one (sd_ret (zm_split (ed_pd (pd_rd (rd_add (ed_var 0) (ed_pd pd_str)))) (ad_cons (ed_pd pd_str) ad_nil))))))
/-! _law_spelt: 0 d, 1 many, 2 found, 3 k -/
abbrev s__law_spelt : Stmt := top 17
abbrev N__law_spelt : List Str := ["d", "many", "found", "k"]
theorem sc__law_spelt : FnScope ["d", "many", "found", "k"] ["d", "many"] (defScope s__law_spelt) := ⟨rfl, rfl, rfl, by decide +kernel, rfl, by decide +kernel, by decide +kernel⟩
noncomputable def b__law_spelt : Os := (oSeq (oSet 2 (oCall g__law_pick (oCons (oVar 0) (oCons (oPu (oFrz (oCall g__law_letters oNil))) oNil))))
 (oSeq (oFor (oRange (oCons (oFrz (oBin fSub (oVar 1) (oPu (oC (.int 1))))) oNil)) (gNm 3)
 (oSet 2 (oBin fAdd (oVar 2) (oPu (oFrz (oCall g__law_pick (oCons (oVar 0) (oCons (oPu (oFrz (oBin fAdd (oPu (oFrz (oCall g__law_letters oNil))) (oPu (oC (.str "0123456789")))))) oNil))))))))
 (oRetV 2)))
noncomputable def g__law_spelt : Fn := fnOf 4 b__law_spelt
theorem ok__law_spelt {P : Program} {w : World} {K : PySem.W.Frag} {mg : Str → Option Value} {base : Heap} {f : Addr} {fd : FuncData} (M : Mg K mg) (F : FnP K "_law_spelt" s__law_spelt f fd) (c__law_letters : Cal P w K mg base 1 "_law_letters" [] g__law_letters) (c__law_pick : Cal P w K mg base 2 "_law_pick" ["d", "row"] g__law_pick) : FnOk P w K mg base CX0 3 f fd ["d", "many"] (spD K 2 g__law_spelt) :=
  fn_ok F sc__law_spelt (by decide) (fun cdv A outer s H E hr G =>
  (bd_cons (sd_set 2 (rd_cal c__law_pick hr (by decide) rfl (ad_cons (ed_var 0) (ad_cons (ed_pd (pd_rd (rd_cal0 c__law_letters hr (by decide) rfl))) ad_nil)) (many_cons (many_cons many_nil))) sc__law_spelt.nd)
 (bd_cons (sd_for PassesOwn.never rfl (id_range1 rfl M.f_range (qd_cons (pd_rd (rd_sub (ed_var 1) (ed_pd pd_int))) qd_nil)) (gd_name 3 sc__law_spelt.nd)
 (bd_one (sd_set 2 (rd_add (ed_var 2) (ed_pd (pd_rd (rd_cal c__law_pick hr (by decide) rfl (ad_cons (ed_var 0) (ad_cons (ed_pd (pd_rd (rd_add (ed_pd (pd_rd (rd_cal0 c__law_letters hr (by decide) rfl))) (ed_pd pd_str)))) ad_nil)) (many_cons (many_cons many_nil)))))) sc__law_spelt.nd)))
 (bd_one (sd_retV 2)))))
/-! _law_piece: 0 d, 1 reserved, 2 way -/
abbrev s__law_piece : Stmt := top 18
abbrev N__law_piece : List Str := ["d", "reserved", "way"]
theorem sc__law_piece : FnScope ["d", "reserved", "way"] ["d", "reserved"] (defScope s__law_piece) := ⟨rfl, rfl, rfl, by decide +kernel, rfl, by decide +kernel, by decide +kernel⟩
noncomputable def b__law_piece : Os := (oSeq (oSet 2 (oCall g__law_draw (oCons (oVar 0) (oCons (oPu (oC (.int 12))) oNil))))
 (oSeq (oIfS (oTst (oBin fLt (oVar 2) (oPu (oC (.int 3)))))
 (oRet (oBin fIx (oPu (oFrz (oLst (oCons (oC (.str "")) (oCons (oC (.str " ")) (oCons (oC (.str "\n")) (oCons (oC (.str "  ")) (oCons (oC (.str " \n")) (oCons (oC (.str "\n\n")) (oCons (oC (.str "\n ")) oNil)))))))))) (oPu (oFrz (oCall g__law_draw (oCons (oVar 0) (oCons (oPu (oC (.int 7))) oNil)))))))
 oNext)
 (oSeq (oIfS (oTst (oBin fLt (oVar 2) (oPu (oC (.int 5)))))
 (oRet (oCall g__law_pick (oCons (oVar 0) (oCons (oPu (oFrz (oCall g__law_signs oNil))) oNil))))
 oNext)
 (oSeq (oIfS (oTst (oBin fLt (oVar 2) (oPu (oC (.int 7)))))
 (oRet (oCall g__law_pick (oCons (oVar 0) (oCons (oPu (oC (.str "(){}[],;:=."))) oNil))))
 oNext)
 (oSeq (oIfS (oTst (oBin fLt (oVar 2) (oPu (oC (.int 9)))))
 (oRet (oCall g__law_spelt (oCons (oVar 0) (oCons (oPu (oFrz (oBin fAdd (oPu (oC (.int 1))) (oPu (oFrz (oCall g__law_draw (oCons (oVar 0) (oCons (oPu (oC (.int 9))) oNil)))))))) oNil))))
 oNext)
 (oSeq (oIfS (oTst (oBin fEq (oVar 2) (oPu (oC (.int 9)))))
 (oRet (oCB fStr1 (oCons (oPu (oFrz (oCall g__law_draw (oCons (oVar 0) (oCons (oPu (oC (.int 1000))) oNil))))) oNil)))
 oNext)
 (oRet (oIf (oTst (oBin fEq (oVar 2) (oPu (oC (.int 10))))) (oCall g__law_pick (oCons (oVar 0) (oCons (oPu (oKeep (oVar 1))) oNil))) (oCall g__law_pick (oCons (oVar 0) (oCons (oPu (oFrz (oBin fAdd (oPu (oFrz (oCall g__law_capitals oNil))) (oPu (oC (.str "0123456789")))))) oNil)))))))))))
noncomputable def g__law_piece : Fn := fnOf 3 b__law_piece
theorem ok__law_piece {P : Program} {w : World} {K : PySem.W.Frag} {mg : Str → Option Value} {base : Heap} {f : Addr} {fd : FuncData} (M : Mg K mg) (F : FnP K "_law_piece" s__law_piece f fd) (c__law_capitals : Cal P w K mg base 1 "_law_capitals" [] g__law_capitals) (c__law_draw : Cal P w K mg base 1 "_law_draw" ["d", "many"] g__law_draw) (c__law_pick : Cal P w K mg base 2 "_law_pick" ["d", "row"] g__law_pick) (c__law_signs : Cal P w K mg base 1 "_law_signs" [] g__law_signs) (c__law_spelt : Cal P w K mg base 3 "_law_spelt" ["d", "many"] g__law_spelt) : FnOk P w K mg base CX0 4 f fd ["d", "reserved"] (spD K 2 g__law_piece) :=
  fn_ok F sc__law_piece (by decide) (fun cdv A outer s H E hr G =>
  (bd_cons (sd_set 2 (rd_cal c__law_draw hr (by decide) rfl (ad_cons (ed_var 0) (ad_cons (ed_pd pd_int) ad_nil)) (many_cons (many_cons many_nil))) sc__law_piece.nd)
 (bd_cons (sd_if (td_ck ck_lt (ed_var 2) (ed_pd pd_int))
 (bd_one (sd_ret (rd_ix (ed_pd (pd_rd (rd_lst (qd_cons pd_str (qd_cons pd_str (qd_cons pd_str (qd_cons pd_str (qd_cons pd_str (qd_cons pd_str (qd_cons pd_str qd_nil)))))))))) (ed_pd (pd_rd (rd_cal c__law_draw hr (by decide) rfl (ad_cons (ed_var 0) (ad_cons (ed_pd pd_int) ad_nil)) (many_cons (many_cons many_nil))))))))
 bd_nil)
 (bd_cons (sd_if (td_ck ck_lt (ed_var 2) (ed_pd pd_int))
 (bd_one (sd_ret (rd_cal c__law_pick hr (by decide) rfl (ad_cons (ed_var 0) (ad_cons (ed_pd (pd_rd (rd_cal0 c__law_signs hr (by decide) rfl))) ad_nil)) (many_cons (many_cons many_nil)))))
 bd_nil)
 (bd_cons (sd_if (td_ck ck_lt (ed_var 2) (ed_pd pd_int))
 (bd_one (sd_ret (rd_cal c__law_pick hr (by decide) rfl (ad_cons (ed_var 0) (ad_cons (ed_pd pd_str) ad_nil)) (many_cons (many_cons many_nil)))))
 bd_nil)
 (bd_cons (sd_if (td_ck ck_lt (ed_var 2) (ed_pd pd_int))
 (bd_one (sd_ret (rd_cal c__law_spelt hr (by decide) rfl (ad_cons (ed_var 0) (ad_cons (ed_pd (pd_rd (rd_add (ed_pd pd_int) (ed_pd (pd_rd (rd_cal c__law_draw hr (by decide) rfl (ad_cons (ed_var 0) (ad_cons (ed_pd pd_int) ad_nil)) (many_cons (many_cons many_nil)))))))) ad_nil)) (many_cons (many_cons many_nil)))))
 bd_nil)
 (bd_cons (sd_if (td_ck (ck_eq hr) (ed_var 2) (ed_pd pd_int))
 (bd_one (sd_ret (zb_str rfl M.f_str (ad_cons (ed_pd (pd_rd (rd_cal c__law_draw hr (by decide) rfl (ad_cons (ed_var 0) (ad_cons (ed_pd pd_int) ad_nil)) (many_cons (many_cons many_nil))))) ad_nil))))
 bd_nil)
 (bd_one (sd_ret (rd_if (td_ck (ck_eq hr) (ed_var 2) (ed_pd pd_int)) (rd_cal c__law_pick hr (by decide) rfl (ad_cons (ed_var 0) (ad_cons (ed_pd (pd_ed (ed_var 1))) ad_nil)) (many_cons (many_cons many_nil))) (rd_cal c__law_pick hr (by decide) rfl (ad_cons (ed_var 0) (ad_cons (ed_pd (pd_rd (rd_add (ed_pd (pd_rd (rd_cal0 c__law_capitals hr (by decide) rfl))) (ed_pd pd_str)))) ad_nil)) (many_cons (many_cons many_nil)))))))))))))
/-! _law_drawn_text: 0 d, 1 reserved, 2 found, 3 k -/
abbrev s__law_drawn_text : Stmt := top 19
abbrev N__law_drawn_text : List Str := ["d", "reserved", "found", "k"]
theorem sc__law_drawn_text : FnScope ["d", "reserved", "found", "k"] ["d", "reserved"] (defScope s__law_drawn_text) := ⟨rfl, rfl, rfl, by decide +kernel, rfl, by decide +kernel, by decide +kernel⟩
noncomputable def b__law_drawn_text : Os := (oSeq (oSet 2 (oBM "str" fJoin (oPu (oC (.str ""))) (oCons (oPu (oFrz (oLc [3] (oRange (oCons (oFrz (oCall g__law_draw (oCons (oVar 0) (oCons (oPu (oC (.int 24))) oNil)))) oNil)) (gNm 3) oYes (oFrz (oCall g__law_piece (oCons (oVar 0) (oCons (oPu (oKeep (oVar 1))) oNil))))))) oNil)))
 (oSeq (oIfS (oAnd (oTst (oCall g__law_rare (oCons (oVar 0) (oCons (oPu (oC (.int 16))) oNil)))) (oTst (oBin fNe (oVar 2) (oPu (oC (.str ""))))))
 (oSet 2 (oSl (oPu (oFrz (oBin fMulX (oVar 2) (oPu (oFrz (oBin fAdd (oPu (oFrz (oBin fDiv (oPu (oC (.int 6000))) (oPu (oFrz (oLen (oVar 2))))))) (oPu (oC (.int 1))))))))) oNoPart (oPart (oC (.int 6000)))))
 oNext)
 (oRetV 2)))
noncomputable def g__law_drawn_text : Fn := fnOf 4 b__law_drawn_text
theorem ok__law_drawn_text {P : Program} {w : World} {K : PySem.W.Frag} {mg : Str → Option Value} {base : Heap} {f : Addr} {fd : FuncData} (M : Mg K mg) (F : FnP K "_law_drawn_text" s__law_drawn_text f fd) (c__law_draw : Cal P w K mg base 1 "_law_draw" ["d", "many"] g__law_draw) (c__law_piece : Cal P w K mg base 4 "_law_piece" ["d", "reserved"] g__law_piece) (c__law_rare : Cal P w K mg base 2 "_law_rare" ["d", "many"] g__law_rare) : FnOk P w K mg base CX0 5 f fd ["d", "reserved"] (spD K 2 g__law_drawn_text) :=
  fn_ok F sc__law_drawn_text (by decide) (fun cdv A outer s H E hr G =>
  (bd_cons (sd_set 2 (zm_join (ed_pd pd_str) (ad_cons (ed_pd (pd_rd (rd_lc (own := [("k", 3)]) (T := [3]) rfl sc__law_drawn_text.nd (by decide) (id_range1 rfl M.f_range (qd_cons (pd_rd (rd_cal c__law_draw hr (by decide) rfl (ad_cons (ed_var 0) (ad_cons (ed_pd pd_int) ad_nil)) (many_cons (many_cons many_nil)))) qd_nil)) (blkOk_by (N := N__law_drawn_text) (sc := defScope s__law_drawn_text) (by decide +kernel)) (fun _ _ _ _ _ _ => (gd_name 3 sc__law_drawn_text.nd)) (fun _ _ _ _ _ _ => tsd_nil) (fun _ _ _ _ _ _ => (pd_rd (rd_cal c__law_piece hr (by decide) rfl (ad_cons (ed_var 0) (ad_cons (ed_pd (pd_ed (ed_var 1))) ad_nil)) (many_cons (many_cons many_nil)))))))) ad_nil)) sc__law_drawn_text.nd)
 (bd_cons (sd_if (td_w (wd_and (td_rd (rd_cal c__law_rare hr (by decide) rfl (ad_cons (ed_var 0) (ad_cons (ed_pd pd_int) ad_nil)) (many_cons (many_cons many_nil)))) (wd_and1 (td_ck (ck_ne hr) (ed_var 2) (ed_pd pd_str)))))
 (bd_one (sd_set 2 (rd_sl (ed_pd (pd_rd (rd_mulX (ed_var 2) (ed_pd (pd_rd (rd_add (ed_pd (pd_rd (rd_fdiv (ed_pd pd_int) (ed_pd (pd_rd (rd_len rfl M.f_len (ed_var 2))))))) (ed_pd pd_int))))))) od_none (od_some pd_int)) sc__law_drawn_text.nd))
 bd_nil)
 (bd_one (sd_retV 2)))))
/-! _law_parted: 0 text, 1 runs, 2 parts, 3 sign, 4 word -/
abbrev s__law_parted : Stmt := top 20
abbrev N__law_parted : List Str := ["text", "runs", "parts", "sign", "word"]
theorem sc__law_parted : FnScope ["text", "runs", "parts", "sign", "word"] ["text"] (defScope s__law_parted) := ⟨rfl, rfl, rfl, by decide +kernel, rfl, by decide +kernel, by decide +kernel⟩
noncomputable def b__law_parted : Os := (oSeq (oSet 1 (oBin fAdd (oPu (oFrz (oBin fAdd (oPu (oFrz (oCall g__law_letters oNil))) (oPu (oFrz (oCall g__law_capitals oNil)))))) (oPu (oC (.str "0123456789")))))
 (oSeq (oSet 2 (oLc [3] (oItm (oVar 0)) (gNm 3) oYes (oFrz (oIf (oTst (oBin (fIn false) (oVar 3) (oVar 1))) (oRes (oKeep (oVar 3))) (oIf (oTst (oBin (fIn false) (oVar 3) (oPu (oC (.str " \n"))))) (oRes (oC (.str " "))) (oBin fAdd (oPu (oFrz (oBin fAdd (oPu (oC (.str " "))) (oVar 3)))) (oPu (oC (.str " ")))))))))
 (oRet (oCB fTuple (oCons (oPu (oFrz (oLc [4] (oItm (oPu (oFrz (oBM "str" fSplit (oPu (oFrz (oBM "str" fJoin (oPu (oC (.str ""))) (oCons (oVar 2) oNil)))) (oCons (oPu (oC (.str " "))) oNil))))) (gNm 4) (oTst (oBin fNe (oVar 4) (oPu (oC (.str ""))))) (oKeep (oVar 4))))) oNil)))))
noncomputable def g__law_parted : Fn := fnOf 5 b__law_parted
theorem ok__law_parted {P : Program} {w : World} {K : PySem.W.Frag} {mg : Str → Option Value} {base : Heap} {f : Addr} {fd : FuncData} (M : Mg K mg) (F : FnP K "_law_parted" s__law_parted f fd) (c__law_capitals : Cal P w K mg base 1 "_law_capitals" [] g__law_capitals) (c__law_letters : Cal P w K mg base 1 "_law_letters" [] g__law_letters) : FnOk P w K mg base CX0 2 f fd ["text"] (spD K 1 g__law_parted) :=
  fn_ok F sc__law_parted (by decide) (fun cdv A outer s H E hr G =>
  (bd_cons (sd_set 1 (rd_add (ed_pd (pd_rd (rd_add (ed_pd (pd_rd (rd_cal0 c__law_letters hr (by decide) rfl))) (ed_pd (pd_rd (rd_cal0 c__law_capitals hr (by decide) rfl)))))) (ed_pd pd_str)) sc__law_parted.nd)
 (bd_cons (sd_setLc 2 (own := [("sign", 3)]) (T := [3]) rfl sc__law_parted.nd (by decide) rfl rfl (sw_true rfl rfl rfl (by decide +kernel)) (id_seq (ed_var 0)) (blkOk_by (N := N__law_parted) (sc := defScope s__law_parted) (by decide +kernel)) (fun _ _ _ _ _ _ => (gd_name 3 sc__law_parted.nd)) (fun _ _ _ _ _ _ => tsd_nil) (fun _ _ _ _ _ _ => (pd_rd (rd_if (td_ck ck_in (ed_var 3) (ed_var 1)) (rd_pd (pd_ed (ed_var 3))) (rd_if (td_ck ck_in (ed_var 3) (ed_pd pd_str)) (rd_pd pd_str) (rd_add (ed_pd (pd_rd (rd_add (ed_pd pd_str) (ed_var 3)))) (ed_pd pd_str)))))))
 (bd_one (sd_ret (zb_tuple rfl M.f_tuple (ad_cons (ed_pd (pd_rd (rd_lc (own := [("word", 4)]) (T := [4]) rfl sc__law_parted.nd (by decide) (id_seq (ed_pd (pd_rd (zm_split (ed_pd (pd_rd (zm_join (ed_pd pd_str) (ad_cons (ed_var 2) ad_nil)))) (ad_cons (ed_pd pd_str) ad_nil))))) (blkOk_by (N := N__law_parted) (sc := defScope s__law_parted) (by decide +kernel)) (fun _ _ _ _ _ _ => (gd_name 4 sc__law_parted.nd)) (fun _ _ _ _ _ _ => (tsd_one (td_ck (ck_ne hr) (ed_var 4) (ed_pd pd_str)))) (fun _ _ _ _ _ _ => (pd_ed (ed_var 4)))))) ad_nil)))))))
/-! _law_is_name: 0 word, 1 reserved, 2 sign -/
abbrev s__law_is_name : Stmt := top 21
abbrev N__law_is_name : List Str := ["word", "reserved", "sign"]
theorem sc__law_is_name : FnScope ["word", "reserved", "sign"] ["word", "reserved"] (defScope s__law_is_name) := ⟨rfl, rfl, rfl, by decide +kernel, rfl, by decide +kernel, by decide +kernel⟩
noncomputable def b__law_is_name : Os := (oSeq (oIfS (oOr (oNot (oTst (oChain fLe fLe (oPu (oC (.int 1))) (oPu (oFrz (oLen (oVar 0)))) (oPu (oC (.int 8)))))) (oOr (oTst (oBin (fIn false) (oVar 0) (oVar 1))) (oTst (oBin (fIn true) (oPu (oFrz (oBin fIx (oVar 0) (oPu (oC (.int 0)))))) (oPu (oFrz (oCall g__law_letters oNil)))))))
 (oRet (oRes (oC (.bool false))))
 oNext)
 (oRet (oCB fAll (oCons (oPu (oFrz (oLc [2] (oItm (oVar 0)) (gNm 2) oYes (oFrz (oBin (fIn false) (oVar 2) (oPu (oFrz (oBin fAdd (oPu (oFrz (oCall g__law_letters oNil))) (oPu (oC (.str "0123456789"))))))))))) oNil))))
noncomputable def g__law_is_name : Fn := fnOf 3 b__law_is_name
theorem ok__law_is_name {P : Program} {w : World} {K : PySem.W.Frag} {mg : Str → Option Value} {base : Heap} {f : Addr} {fd : FuncData} (M : Mg K mg) (F : FnP K "_law_is_name" s__law_is_name f fd) (c__law_letters : Cal P w K mg base 1 "_law_letters" [] g__law_letters) : FnOk P w K mg base CX0 2 f fd ["word", "reserved"] (spD K 2 g__law_is_name) :=
  fn_ok F sc__law_is_name (by decide) (fun cdv A outer s H E hr G =>
  (bd_cons (sd_if (td_w (wd_or (td_not (td_chain ck_le ck_le (ed_pd pd_int) (ed_pd (pd_rd (rd_len rfl M.f_len (ed_var 0)))) (ed_pd pd_int))) (wd_or (td_ck ck_in (ed_var 0) (ed_var 1)) (wd_or1 (td_ck ck_notin (ed_pd (pd_rd (rd_ix (ed_var 0) (ed_pd pd_int)))) (ed_pd (pd_rd (rd_cal0 c__law_letters hr (by decide) rfl))))))))
 (bd_one (sd_ret (rd_pd pd_bool)))
 bd_nil)
 (bd_one (sd_ret (zb_all rfl rfl M.f_all (ad_cons (ed_pd (pd_rd (rd_lc (own := [("sign", 2)]) (T := [2]) rfl sc__law_is_name.nd (by decide) (id_seq (ed_var 0)) (blkOk_by (N := N__law_is_name) (sc := defScope s__law_is_name) (by decide +kernel)) (fun _ _ _ _ _ _ => (gd_name 2 sc__law_is_name.nd)) (fun _ _ _ _ _ _ => tsd_nil) (fun _ _ _ _ _ _ => (pd_rd (rd_ck ck_in (ed_var 2) (ed_pd (pd_rd (rd_add (ed_pd (pd_rd (rd_cal0 c__law_letters hr (by decide) rfl))) (ed_pd pd_str)))))))))) ad_nil))))))
/-! _law_words: 0 d, 1 reserved, 2 found, 3 word, 4 many, 5 name, 6 place, 7 bent, 8 number -/
abbrev s__law_words : Stmt := top 22
abbrev N__law_words : List Str := ["d", "reserved", "found", "word", "many", "name", "place", "bent", "number"]
theorem sc__law_words : FnScope ["d", "reserved", "found", "word", "many", "name", "place", "bent", "number"] ["d", "reserved"] (defScope s__law_words) := ⟨rfl, rfl, rfl, by decide +kernel, rfl, by decide +kernel, by decide +kernel⟩
noncomputable def b__law_words : Os := (oSeq (oSet 2 (oLst (oCons (oC (.str "")) (oCons (oC (.str "0")) (oCons (oC (.str "00")) (oCons (oC (.str "007")) (oCons (oC (.str "255")) (oCons (oC (.str "256")) (oCons (oC (.str "0255")) (oCons (oC (.str "999")) (oCons (oC (.str "1000")) (oCons (oC (.str "1_0")) (oCons (oC (.str "0x1")) (oCons (oC (.str "A")) (oCons (oC (.str "z")) (oCons (oC (.str "7a")) (oCons (oC (.str "\n")) (oCons (oC (.str " ")) oNil))))))))))))))))))
 (oSeq (oFor (oItm (oVar 1)) (gNm 3)
 (oDrop (oPu (oMut 2 fExtend (oCons (oPu (oFrz (oLst (oCons (oKeep (oVar 3)) (oCons (oFrz (oBin fAdd (oVar 3) (oPu (oFrz (oCall g__law_pick (oCons (oVar 0) (oCons (oPu (oC (.str "a0sZ_\n"))) oNil))))))) (oCons (oFrz (oSl (oVar 3) oNoPart (oPart (oFrz (oBin fSub (oPu (oFrz (oLen (oVar 3)))) (oPu (oC (.int 1)))))))) (oCons (oFrz (oSl (oVar 3) (oPart (oC (.int 1))) oNoPart)) oNil))))))) oNil)))))
 (oSeq (oFor (oItm (oPu (oFrz (oLst (oCons (oC (.int 1)) (oCons (oC (.int 2)) (oCons (oC (.int 7)) (oCons (oC (.int 8)) (oCons (oC (.int 9)) oNil))))))))) (gNm 4)
 (oSeq (oSet 5 (oCall g__law_spelt (oCons (oVar 0) (oCons (oPu (oKeep (oVar 4))) oNil))))
 (oSeq (oSet 6 (oCall g__law_draw (oCons (oVar 0) (oCons (oPu (oKeep (oVar 4))) oNil))))
 (oSeq (oSet 7 (oCall g__law_pick (oCons (oVar 0) (oCons (oPu (oFrz (oBin fAdd (oPu (oFrz (oBin fAdd (oPu (oFrz (oCall g__law_capitals oNil))) (oPu (oFrz (oCall g__law_signs oNil)))))) (oPu (oC (.str " \n")))))) oNil))))
 (oSeq (oDrop (oPu (oMut 2 fExtend (oCons (oPu (oFrz (oLst (oCons (oKeep (oVar 5)) (oCons (oFrz (oBin fAdd (oPu (oFrz (oBin fAdd (oPu (oFrz (oSl (oVar 5) oNoPart (oPart (oKeep (oVar 6)))))) (oVar 7)))) (oPu (oFrz (oSl (oVar 5) (oPart (oFrz (oBin fAdd (oVar 6) (oPu (oC (.int 1)))))) oNoPart))))) (oCons (oFrz (oBin fAdd (oVar 5) (oPu (oC (.str "\n"))))) (oCons (oFrz (oBin fAdd (oPu (oC (.str " "))) (oVar 5))) oNil))))))) oNil))))
 (oDrop (oPu (oMutK 2 fAppend (oCons (oFrz (oBin fAdd (oPu (oFrz (oCB fStr1 (oCons (oPu (oFrz (oCall g__law_draw (oCons (oVar 0) (oCons (oPu (oC (.int 10))) oNil))))) oNil)))) (oPu (oFrz (oSl (oVar 5) (oPart (oC (.int 1))) oNoPart))))) oNil)))))))))
 (oSeq (oFor (oItm (oPu (oFrz (oLst (oCons (oC (.int 10)) (oCons (oC (.int 100)) (oCons (oC (.int 300)) (oCons (oC (.int 1000)) oNil)))))))) (gNm 4)
 (oSeq (oSet 8 (oCB fStr1 (oCons (oPu (oFrz (oCall g__law_draw (oCons (oVar 0) (oCons (oPu (oKeep (oVar 4))) oNil))))) oNil)))
 (oDrop (oPu (oMut 2 fExtend (oCons (oPu (oFrz (oLst (oCons (oKeep (oVar 8)) (oCons (oFrz (oBin fAdd (oPu (oC (.str "0"))) (oVar 8))) (oCons (oFrz (oBin fAdd (oPu (oFrz (oCall g__law_pick (oCons (oVar 0) (oCons (oPu (oC (.str "-+ a_."))) oNil))))) (oVar 8))) (oCons (oFrz (oBin fAdd (oVar 8) (oPu (oFrz (oCall g__law_pick (oCons (oVar 0) (oCons (oPu (oC (.str " \na_."))) oNil))))))) oNil))))))) oNil))))))
 (oSeq (oIfS (oTst (oCall g__law_rare (oCons (oVar 0) (oCons (oPu (oC (.int 16))) oNil))))
 (oDrop (oPu (oMut 2 fExtend (oCons (oPu (oFrz (oLst (oCons (oFrz (oBin fMulX (oPu (oC (.str "1"))) (oPu (oC (.int 4500))))) (oCons (oFrz (oBin fMulX (oPu (oC (.str "0"))) (oPu (oC (.int 4500))))) (oCons (oFrz (oBin fMulX (oPu (oC (.str "a"))) (oPu (oC (.int 6000))))) oNil)))))) oNil))))
 oNext)
 (oRetV 2))))))
noncomputable def g__law_words : Fn := fnOf 9 b__law_words
theorem ok__law_words {P : Program} {w : World} {K : PySem.W.Frag} {mg : Str → Option Value} {base : Heap} {f : Addr} {fd : FuncData} (M : Mg K mg) (F : FnP K "_law_words" s__law_words f fd) (c__law_capitals : Cal P w K mg base 1 "_law_capitals" [] g__law_capitals) (c__law_draw : Cal P w K mg base 1 "_law_draw" ["d", "many"] g__law_draw) (c__law_pick : Cal P w K mg base 2 "_law_pick" ["d", "row"] g__law_pick) (c__law_rare : Cal P w K mg base 2 "_law_rare" ["d", "many"] g__law_rare) (c__law_signs : Cal P w K mg base 1 "_law_signs" [] g__law_signs) (c__law_spelt : Cal P w K mg base 3 "_law_spelt" ["d", "many"] g__law_spelt) : FnOk P w K mg base CX0 4 f fd ["d", "reserved"] (spD K 2 g__law_words) :=
  fn_ok F sc__law_words (by decide) (fun cdv A outer s H E hr G =>
  (bd_cons (sd_set 2 (rd_lst (qd_cons pd_str (qd_cons pd_str (qd_cons pd_str (qd_cons pd_str (qd_cons pd_str (qd_cons pd_str (qd_cons pd_str (qd_cons pd_str (qd_cons pd_str (qd_cons pd_str (qd_cons pd_str (qd_cons pd_str (qd_cons pd_str (qd_cons pd_str (qd_cons pd_str (qd_cons pd_str qd_nil))))))))))))))))) sc__law_words.nd)
 (bd_cons (sd_for PassesOwn.never rfl (id_seq (ed_var 1)) (gd_name 3 sc__law_words.nd)
 (bd_one (sd_expr (ed_pd (zl_extend 2 (ad_cons (ed_pd (pd_rd (rd_lst (qd_cons (pd_ed (ed_var 3)) (qd_cons (pd_rd (rd_add (ed_var 3) (ed_pd (pd_rd (rd_cal c__law_pick hr (by decide) rfl (ad_cons (ed_var 0) (ad_cons (ed_pd pd_str) ad_nil)) (many_cons (many_cons many_nil))))))) (qd_cons (pd_rd (rd_sl (ed_var 3) od_none (od_some (pd_rd (rd_sub (ed_pd (pd_rd (rd_len rfl M.f_len (ed_var 3)))) (ed_pd pd_int)))))) (qd_cons (pd_rd (rd_sl (ed_var 3) (od_some pd_int) od_none)) qd_nil))))))) ad_nil))))))
 (bd_cons (sd_for PassesOwn.never rfl (id_seq (ed_pd (pd_rd (rd_lst (qd_cons pd_int (qd_cons pd_int (qd_cons pd_int (qd_cons pd_int (qd_cons pd_int qd_nil))))))))) (gd_name 4 sc__law_words.nd)
 (bd_cons (sd_set 5 (rd_cal c__law_spelt hr (by decide) rfl (ad_cons (ed_var 0) (ad_cons (ed_pd (pd_ed (ed_var 4))) ad_nil)) (many_cons (many_cons many_nil))) sc__law_words.nd)
 (bd_cons (sd_set 6 (rd_cal c__law_draw hr (by decide) rfl (ad_cons (ed_var 0) (ad_cons (ed_pd (pd_ed (ed_var 4))) ad_nil)) (many_cons (many_cons many_nil))) sc__law_words.nd)
 (bd_cons (sd_set 7 (rd_cal c__law_pick hr (by decide) rfl (ad_cons (ed_var 0) (ad_cons (ed_pd (pd_rd (rd_add (ed_pd (pd_rd (rd_add (ed_pd (pd_rd (rd_cal0 c__law_capitals hr (by decide) rfl))) (ed_pd (pd_rd (rd_cal0 c__law_signs hr (by decide) rfl)))))) (ed_pd pd_str)))) ad_nil)) (many_cons (many_cons many_nil))) sc__law_words.nd)
 (bd_cons (sd_expr (ed_pd (zl_extend 2 (ad_cons (ed_pd (pd_rd (rd_lst (qd_cons (pd_ed (ed_var 5)) (qd_cons (pd_rd (rd_add (ed_pd (pd_rd (rd_add (ed_pd (pd_rd (rd_sl (ed_var 5) od_none (od_some (pd_ed (ed_var 6)))))) (ed_var 7)))) (ed_pd (pd_rd (rd_sl (ed_var 5) (od_some (pd_rd (rd_add (ed_var 6) (ed_pd pd_int)))) od_none))))) (qd_cons (pd_rd (rd_add (ed_var 5) (ed_pd pd_str))) (qd_cons (pd_rd (rd_add (ed_pd pd_str) (ed_var 5))) qd_nil))))))) ad_nil))))
 (bd_one (sd_expr (ed_pd (zl_append 2 (qd_cons (pd_rd (rd_add (ed_pd (pd_rd (zb_str rfl M.f_str (ad_cons (ed_pd (pd_rd (rd_cal c__law_draw hr (by decide) rfl (ad_cons (ed_var 0) (ad_cons (ed_pd pd_int) ad_nil)) (many_cons (many_cons many_nil))))) ad_nil)))) (ed_pd (pd_rd (rd_sl (ed_var 5) (od_some pd_int) od_none))))) qd_nil))))))))))
 (bd_cons (sd_for PassesOwn.never rfl (id_seq (ed_pd (pd_rd (rd_lst (qd_cons pd_int (qd_cons pd_int (qd_cons pd_int (qd_cons pd_int qd_nil)))))))) (gd_name 4 sc__law_words.nd)
 (bd_cons (sd_set 8 (zb_str rfl M.f_str (ad_cons (ed_pd (pd_rd (rd_cal c__law_draw hr (by decide) rfl (ad_cons (ed_var 0) (ad_cons (ed_pd (pd_ed (ed_var 4))) ad_nil)) (many_cons (many_cons many_nil))))) ad_nil)) sc__law_words.nd)
 (bd_one (sd_expr (ed_pd (zl_extend 2 (ad_cons (ed_pd (pd_rd (rd_lst (qd_cons (pd_ed (ed_var 8)) (qd_cons (pd_rd (rd_add (ed_pd pd_str) (ed_var 8))) (qd_cons (pd_rd (rd_add (ed_pd (pd_rd (rd_cal c__law_pick hr (by decide) rfl (ad_cons (ed_var 0) (ad_cons (ed_pd pd_str) ad_nil)) (many_cons (many_cons many_nil))))) (ed_var 8))) (qd_cons (pd_rd (rd_add (ed_var 8) (ed_pd (pd_rd (rd_cal c__law_pick hr (by decide) rfl (ad_cons (ed_var 0) (ad_cons (ed_pd pd_str) ad_nil)) (many_cons (many_cons many_nil))))))) qd_nil))))))) ad_nil)))))))
 (bd_cons (sd_if (td_rd (rd_cal c__law_rare hr (by decide) rfl (ad_cons (ed_var 0) (ad_cons (ed_pd pd_int) ad_nil)) (many_cons (many_cons many_nil))))
 (bd_one (sd_expr (ed_pd (zl_extend 2 (ad_cons (ed_pd (pd_rd (rd_lst (qd_cons (pd_rd (rd_mulX (ed_pd pd_str) (ed_pd pd_int))) (qd_cons (pd_rd (rd_mulX (ed_pd pd_str) (ed_pd pd_int))) (qd_cons (pd_rd (rd_mulX (ed_pd pd_str) (ed_pd pd_int))) qd_nil)))))) ad_nil)))))
 bd_nil)
 (bd_one (sd_retV 2))))))))
/-! law: 0 script, 1 d, 2 reserved, 3 one, 4 two, 5 text, 6 numbers, 7 k, 8 word, 9 name, 10 number -/
abbrev s_law : Stmt := top 23
abbrev N_law : List Str := ["script", "d", "reserved", "one", "two", "text", "numbers", "k", "word", "name", "number"]
theorem sc_law : FnScope ["script", "d", "reserved", "one", "two", "text", "numbers", "k", "word", "name", "number"] ["script"] (defScope s_law) := ⟨rfl, rfl, rfl, by decide +kernel, rfl, by decide +kernel, by decide +kernel⟩
noncomputable def b_law : Os := (oSeq (oSet 1 (oCall g__law_begin (oCons (oPu (oKeep (oVar 0))) oNil)))
 (oSeq (oSet 2 (oCall g__law_reserved oNil))
 (oSeq (oSet 3 (oCall g__law_drawn_text (oCons (oVar 1) (oCons (oPu (oKeep (oVar 2))) oNil))))
 (oSeq (oSet 4 (oCall g__law_drawn_text (oCons (oVar 1) (oCons (oPu (oKeep (oVar 2))) oNil))))
 (oSeq (oFor (oItm (oPu (oFrz (oLst (oCons (oKeep (oVar 3)) (oCons (oKeep (oVar 4)) (oCons (oKeep (oVar 3)) (oCons (oC (.str "")) (oCons (oC (.str " \n")) (oCons (oFrz (oSl (oPu (oFrz (oBin fAdd (oVar 3) (oVar 4)))) oNoPart (oPart (oC (.int 6000))))) oNil)))))))))) (gNm 5)
 (oIfS (oTst (oBin fNe (oPu (oFrz (oCall g_tokens_of (oCons (oPu (oKeep (oVar 5))) oNil)))) (oPu (oFrz (oCall g__law_parted (oCons (oPu (oKeep (oVar 5))) oNil))))))
 (oRet (oRes (oC (.bool false))))
 oNext))
 (oSeq (oSet 6 oNewK)
 (oSeq (oFor (oRange (oCons (oC (.int 256)) oNil)) (gNm 7)
 (oStA 6 (oC (.bool true)) (oFrz (oCB fStr1 (oCons (oVar 7) oNil)))))
 (oSeq (oFor (oItm (oPu (oFrz (oBin fAdd (oPu (oFrz (oCall g__law_words (oCons (oVar 1) (oCons (oPu (oKeep (oVar 2))) oNil))))) (oPu (oFrz (oCB fList (oCons (oPu (oFrz (oSl (oPu (oFrz (oCall g__law_parted (oCons (oPu (oKeep (oVar 3))) oNil)))) oNoPart (oPart (oC (.int 9)))))) oNil)))))))) (gNm 8)
 (oSeq (oSet 9 (oCall g_fits_name (oCons (oPu (oKeep (oVar 8))) oNil)))
 (oSeq (oSet 10 (oCall g_fits_number (oCons (oPu (oKeep (oVar 8))) oNil)))
 (oSeq (oIfS (oOr (oNot (oTst (oIsi "bool" (oVar 9)))) (oTst (oBin fNe (oVar 9) (oPu (oFrz (oCall g__law_is_name (oCons (oPu (oKeep (oVar 8))) (oCons (oPu (oKeep (oVar 2))) oNil))))))))
 (oRet (oRes (oC (.bool false))))
 oNext)
 (oIfS (oOr (oNot (oTst (oIsi "bool" (oVar 10)))) (oTst (oBin fNe (oVar 10) (oPu (oFrz (oInA false (oVar 8) (oVar 6)))))))
 (oRet (oRes (oC (.bool false))))
 oNext)))))
 (oRet (oRes (oC (.bool true))))))))))))
noncomputable def g_law : Fn := fnOf 11 b_law
theorem ok_law {P : Program} {w : World} {K : PySem.W.Frag} {mg : Str → Option Value} {base : Heap} {f : Addr} {fd : FuncData} (M : Mg K mg) (F : FnP K "law" s_law f fd) (c__law_begin : Cal P w K mg base 1 "_law_begin" ["script"] g__law_begin) (c__law_drawn_text : Cal P w K mg base 5 "_law_drawn_text" ["d", "reserved"] g__law_drawn_text) (c__law_is_name : Cal P w K mg base 2 "_law_is_name" ["word", "reserved"] g__law_is_name) (c__law_parted : Cal P w K mg base 2 "_law_parted" ["text"] g__law_parted) (c__law_reserved : Cal P w K mg base 1 "_law_reserved" [] g__law_reserved) (c__law_words : Cal P w K mg base 4 "_law_words" ["d", "reserved"] g__law_words) (c_fits_name : Cal P w K mg base 1 "fits_name" ["token"] g_fits_name) (c_fits_number : Cal P w K mg base 1 "fits_number" ["token"] g_fits_number) (c_tokens_of : Cal P w K mg base 1 "tokens_of" ["text"] g_tokens_of) : FnOk P w K mg base CX0 6 f fd ["script"] (spD K 1 g_law) :=
  fn_ok F sc_law (by decide) (fun cdv A outer s H E hr G =>
  (bd_cons (sd_set 1 (rd_cal c__law_begin hr (by decide) rfl (ad_cons (ed_pd (pd_ed (ed_var 0))) ad_nil) (many_cons many_nil)) sc_law.nd)
 (bd_cons (sd_set 2 (rd_cal0 c__law_reserved hr (by decide) rfl) sc_law.nd)
 (bd_cons (sd_set 3 (rd_cal c__law_drawn_text hr (by decide) rfl (ad_cons (ed_var 1) (ad_cons (ed_pd (pd_ed (ed_var 2))) ad_nil)) (many_cons (many_cons many_nil))) sc_law.nd)
 (bd_cons (sd_set 4 (rd_cal c__law_drawn_text hr (by decide) rfl (ad_cons (ed_var 1) (ad_cons (ed_pd (pd_ed (ed_var 2))) ad_nil)) (many_cons (many_cons many_nil))) sc_law.nd)
 (bd_cons (sd_for PassesOwn.never rfl (id_seq (ed_pd (pd_rd (rd_lst (qd_cons (pd_ed (ed_var 3)) (qd_cons (pd_ed (ed_var 4)) (qd_cons (pd_ed (ed_var 3)) (qd_cons pd_str (qd_cons pd_str (qd_cons (pd_rd (rd_sl (ed_pd (pd_rd (rd_add (ed_var 3) (ed_var 4)))) od_none (od_some pd_int))) qd_nil)))))))))) (gd_name 5 sc_law.nd)
 (bd_one (sd_if (td_ck (ck_ne hr) (ed_pd (pd_rd (rd_cal c_tokens_of hr (by decide) rfl (ad_cons (ed_pd (pd_ed (ed_var 5))) ad_nil) (many_cons many_nil)))) (ed_pd (pd_rd (rd_cal c__law_parted hr (by decide) rfl (ad_cons (ed_pd (pd_ed (ed_var 5))) ad_nil) (many_cons many_nil)))))
 (bd_one (sd_ret (rd_pd pd_bool)))
 bd_nil)))
 (bd_cons (sd_set 6 rd_newK sc_law.nd)
 (bd_cons (sd_for PassesOwn.never rfl (id_range1 rfl M.f_range (qd_cons pd_int qd_nil)) (gd_name 7 sc_law.nd)
 (bd_one (sd_stA 6 hr pd_bool (pd_rd (zb_str rfl M.f_str (ad_cons (ed_var 7) ad_nil))))))
 (bd_cons (sd_for PassesOwn.never rfl (id_seq (ed_pd (pd_rd (rd_add (ed_pd (pd_rd (rd_cal c__law_words hr (by decide) rfl (ad_cons (ed_var 1) (ad_cons (ed_pd (pd_ed (ed_var 2))) ad_nil)) (many_cons (many_cons many_nil))))) (ed_pd (pd_rd (zb_list rfl M.f_list (ad_cons (ed_pd (pd_rd (rd_sl (ed_pd (pd_rd (rd_cal c__law_parted hr (by decide) rfl (ad_cons (ed_pd (pd_ed (ed_var 3))) ad_nil) (many_cons many_nil)))) od_none (od_some pd_int)))) ad_nil)))))))) (gd_name 8 sc_law.nd)
 (bd_cons (sd_set 9 (rd_cal c_fits_name hr (by decide) rfl (ad_cons (ed_pd (pd_ed (ed_var 8))) ad_nil) (many_cons many_nil)) sc_law.nd)
 (bd_cons (sd_set 10 (rd_cal c_fits_number hr (by decide) rfl (ad_cons (ed_pd (pd_ed (ed_var 8))) ad_nil) (many_cons many_nil)) sc_law.nd)
 (bd_cons (sd_if (td_w (wd_or (td_not (td_rd (rd_isi rfl M.f_isinstance (ed_var 9) rfl M.f_bool boot_bool))) (wd_or1 (td_ck (ck_ne hr) (ed_var 9) (ed_pd (pd_rd (rd_cal c__law_is_name hr (by decide) rfl (ad_cons (ed_pd (pd_ed (ed_var 8))) (ad_cons (ed_pd (pd_ed (ed_var 2))) ad_nil)) (many_cons (many_cons many_nil)))))))))
 (bd_one (sd_ret (rd_pd pd_bool)))
 bd_nil)
 (bd_one (sd_if (td_w (wd_or (td_not (td_rd (rd_isi rfl M.f_isinstance (ed_var 10) rfl M.f_bool boot_bool))) (wd_or1 (td_ck (ck_ne hr) (ed_var 10) (ed_pd (pd_rd (rd_inA hr (ed_var 8) (ed_var 6))))))))
 (bd_one (sd_ret (rd_pd pd_bool)))
 bd_nil))))))
 (bd_one (sd_ret (rd_pd pd_bool))))))))))))
end K01
namespace K01
open PySem Ow
abbrev dS (cs : List Int) (a b c e : Int) : Ct := .li [.list (cs.map .int), .int a, .int b, .int c, .int e]
theorem draw_st (cs : List Int) (a b c e m : Int) (ha : 0 ≤ a) (hm : 0 < m) (hm2 : m < 2 ^ 64) : ∃ r a' b' c', 
    g__law_draw [.ow true (dS cs a b c e), .pu (.int m)] = .ret (.pu (.int r)) [.ow true (dS cs a' b' c' e), .pu (.int m)] ∧ 0 ≤ a' ∧ 0 ≤ r ∧ r < m := by
  have hd : ∀ b, divOk b m = true := fun b => divOk_of hm hm2
  have hd2 : ∀ b, divOk b 2 = true := fun b => divOk_of (by decide) (by decide)
  have hd3 : ∀ b, divOk b 16 = true := fun b => divOk_of (by decide) (by decide)
  have hm1 : ∀ b, mulOk 2 b = true := fun b => mulOk_l (by decide) (by decide)
  have hm2' : ∀ b, mulOk b 48271 = true := fun b => mulOk_r (by decide) (by decide)
  have hm3 : ∀ b, mulOk b 16807 = true := fun b => mulOk_r (by decide) (by decide)
  have hm4 : ∀ b, mulOk b 69621 = true := fun b => mulOk_r (by decide) (by decide)
  have h6 : 0 < (2 : Int) ^ 6000 := Int.pow_pos (by decide)
  have hr : ∀ x : Int, 0 ≤ x % m ∧ x % m < m := fun x => ⟨Int.emod_nonneg _ (by omega), Int.emod_lt_of_pos _ hm⟩
  by_cases hb : 0 < b
  · refine ⟨b % m, a, b / m, c, ?_, ha, hr _⟩
    simp [g__law_draw, fnOf_eq, b__law_draw, ap_var, ap_retV, setSl_eq, stL, L2.ixN, hb, hd, hm]
  · by_cases hl : a < cs.length
    · have hlt : a.toNat < cs.length := by omega
      have hv := List.getElem?_eq_getElem hlt
      generalize hv2 : cs[a.toNat]'hlt = v at hv
      generalize hsz : 2 * (if v < 0 then -v else v) + (if v < 0 then 1 else 0) = sz
      by_cases hs : 2000000000000000000 ≤ sz
      · refine ⟨sz / 2 % 2 ^ 6000 % m, a + 1, sz / 2 % 2 ^ 6000 / m, c, ?_, by omega, hr _⟩
        simp [g__law_draw, fnOf_eq, b__law_draw, ap_var, ap_retV, setSl_eq, stL, L2.ixN, hb, hd, hm, hl, atI_nn ha, hd2, hd3, hm1, hm2', hm3, hm4, hv, hv2, hs, ha, h6, hsz]
      · refine ⟨(c * 48271 + sz % 2147483629 * 16807 + (a + 1) * 69621 + 11) % 2147483647 / 16 % m, a + 1, b, (c * 48271 + sz % 2147483629 * 16807 + (a + 1) * 69621 + 11) % 2147483647, ?_, by omega, hr _⟩
        simp [g__law_draw, fnOf_eq, b__law_draw, ap_var, ap_retV, setSl_eq, stL, L2.ixN, hb, hd, hm, hl, atI_nn ha, hd2, hd3, hm1, hm2', hm3, hm4, hv, hv2, hs, ha, hsz]
    · refine ⟨(c * 48271 + 0 % 2147483629 * 16807 + (a + 1) * 69621 + 11) % 2147483647 / 16 % m, a + 1, b, (c * 48271 + 0 % 2147483629 * 16807 + (a + 1) * 69621 + 11) % 2147483647, ?_, by omega, hr _⟩
      simp [g__law_draw, fnOf_eq, b__law_draw, ap_var, ap_retV, setSl_eq, stL, L2.ixN, hb, hd, hm, hl, atI_nn ha, hd2, hd3, hm1, hm2', hm3, hm4, ha]
def DOK (ds : List D) : Prop := ∃ (cs : List Int) (a b c e : Int), ds = [.list (cs.map .int), .int a, .int b, .int c, .int e] ∧ 0 ≤ a
theorem draw {ds : List D} (h : DOK ds) {m : Int} (hm : 0 < m) (hm2 : m < 2 ^ 64) : ∃ r ds', DOK ds' ∧ 0 ≤ r ∧ r < m ∧ g__law_draw [.ow true (.li ds), .pu (.int m)] = .ret (.pu (.int r)) [.ow true (.li ds'), .pu (.int m)] := by
  obtain ⟨cs, a, b, c, e, rfl, ha⟩ := h
  obtain ⟨r, a', b', c', h1, h2, h3, h4⟩ := draw_st cs a b c e m ha hm hm2
  exact ⟨r, _, ⟨cs, a', b', c', e, rfl, h2⟩, h3, h4, h1⟩
theorem begin_ok (ns : List Int) (hl : ns.length ≤ 63) : ∃ ds, DOK ds ∧ g__law_begin [.pu (scr (ns.map .int))] = .ret (.nw (.li ds)) [.pu (scr (ns.map .int))] := by
  refine ⟨_, ⟨ns, 0, 0, 7, 3, rfl, Int.le_refl _⟩, ?_⟩
  have h : lcL [1] (gNm 1) oYes (oFrz (oCB fIntX (oCons (oVar 1) oNil))) (ns.map PyData.int) [.pu (scr (ns.map .int)), .no] = .ok (ns.map PyData.int) [.pu (scr (ns.map .int)), .no] :=
    lcL_map fun i _ => ⟨[.pu (scr (ns.map .int)), .pu (.int i)], [.pu (scr (ns.map .int)), .pu (.int i)], rfl, by simp [ap_var], rfl⟩
  have hk : ns.length ≤ 16000000 := by omega
  simp [g__law_begin, fnOf_eq, b__law_begin, ap_var, lc1_eq, okW, loose, wipeR, restR, lcE, h, hk, scr]
@[simp] theorem letters_ok : g__law_letters [] = .ret (.pu (.str "abcdefghijklmnopqrstuvwxyz")) [] := rfl
@[simp] theorem capitals_ok : g__law_capitals [] = .ret (.pu (.str "ABCDEFGHIJKLMNOPQRSTUVWXYZ")) [] := rfl
@[simp] theorem signs_ok : g__law_signs [] = .ret (.pu (.str "!\"#$&'()*+,-./:;<=>?\x40[\\]^_`{|}~")) [] := rfl
theorem pickS {ds : List D} (h : DOK ds) {s : Str} (h0 : 0 < s.length) (h1 : s.length ≤ 16000000) : ∃ c ds', DOK ds' ∧ c ∈ s.cps.toList ∧ g__law_pick [.ow true (.li ds), .pu (.str s)] = .ret (.pu (.str ⟨#[c]⟩)) [.ow true (.li ds'), .pu (.str s)] := by
  obtain ⟨r, ds', hd, hr, hr2, e⟩ := draw h (m := s.length) (by omega) (by omega)
  have hlt : r.toNat < s.cps.toList.length := by
    show r.toNat < s.cps.size
    have : s.length = s.cps.size := rfl
    omega
  have he : s.cps[r.toNat]? = some (s.cps.toList[r.toNat]) := by
    rw [← Array.getElem?_toList, List.getElem?_eq_getElem hlt]
  refine ⟨s.cps.toList[r.toNat], ds', hd, List.getElem_mem hlt, ?_⟩
  simp [g__law_pick, fnOf_eq, b__law_pick, ap_var, h1, e, atI_nn hr, he]
theorem pickL {ds : List D} (h : DOK ds) {xs : List D} (h0 : 0 < xs.length) (h1 : xs.length ≤ 16000000) : ∃ x ds', DOK ds' ∧ x ∈ xs ∧ g__law_pick [.ow true (.li ds), .pu (.list xs)] = .ret (.pu x) [.ow true (.li ds'), .pu (.list xs)] := by
  obtain ⟨r, ds', hd, hr, hr2, e⟩ := draw h (m := xs.length) (by omega) (by omega)
  have hlt : r.toNat < xs.length := by omega
  refine ⟨xs[r.toNat], ds', hd, List.getElem_mem hlt, ?_⟩
  simp [g__law_pick, fnOf_eq, b__law_pick, ap_var, h1, e, atI_nn hr, hlt]
theorem eqInt (i j : Int) : fEq (.int i) (.int j) = some (.pu (.bool (decide (i = j)))) := by
  unfold fEq
  rw [if_pos ⟨rfl, rfl⟩]
  simp [PyData.eqv, Bool.beq_eq_decide_eq]
theorem rare {ds : List D} (h : DOK ds) {m : Int} (hm : 0 < m) (hm2 : m < 2 ^ 64) : ∃ b ds', DOK ds' ∧ g__law_rare [.ow true (.li ds), .pu (.int m)] = .ret (.pu (.bool b)) [.ow true (.li ds'), .pu (.int m)] := by
  obtain ⟨r, ds', hd, hr, hr2, e⟩ := draw h hm hm2
  have h2 : divOk m 2 = true := divOk_of (by decide) (by decide)
  refine ⟨decide (r = m / 2), ds', hd, ?_⟩
  simp [g__law_rare, fnOf_eq, b__law_rare, ap_var, e, h2, eqInt]
def ASC (s : Str) : Prop := ∀ c ∈ s.cps.toList, c < 128
theorem asc_app {a b : Str} (ha : ASC a) (hb : ASC b) : ASC (a ++ b) := fun c hc => by
  have : (a ++ b).cps.toList = a.cps.toList ++ b.cps.toList := by rw [Str.cps_append, Array.toList_append]
  rw [this] at hc
  exact (List.mem_append.mp hc).elim (ha c) (hb c)
theorem asc_one {c : Nat} {s : Str} (h : ASC s) (hc : c ∈ s.cps.toList) : ASC ⟨#[c]⟩ := fun x hx => by
  have : x = c := by simpa using hx
  rw [this]; exact h c hc
theorem len_one (c : Nat) : (⟨#[c]⟩ : Str).length = 1 := rfl
theorem asc_letters : ASC "abcdefghijklmnopqrstuvwxyz" := by unfold ASC; decide +kernel
theorem asc_lettersd : ASC (("abcdefghijklmnopqrstuvwxyz" : Str) ++ "0123456789") := by unfold ASC; decide +kernel
theorem spelt {ds : List D} (h : DOK ds) {m : Int} (hm : 1 ≤ m) (hm2 : m ≤ 100) : ∃ s ds', DOK ds' ∧ (s.length : Int) = m ∧ ASC s ∧ g__law_spelt [.ow true (.li ds), .pu (.int m)] = .ret (.pu (.str s)) [.ow true (.li ds'), .pu (.int m)] := by
  obtain ⟨c0, ds0, hd0, hc0, e0⟩ := pickS h (s := "abcdefghijklmnopqrstuvwxyz") (by decide +kernel) (by decide +kernel)
  have hr : (-4611686018427387904 ≤ m - 1 ∧ m - 1 < 4611686018427387904) := by omega
  obtain ⟨ρ', h1, ds1, s1, k1, h2, h3, h4, h5, h6⟩ := forL_inv (g := gNm 3) (b := oSet 2 (oBin fAdd (oVar 2) (oPu (oFrz (oCall g__law_pick (oCons (oVar 0) (oCons (oPu (oFrz (oBin fAdd (oPu (oFrz (oCall g__law_letters oNil))) (oPu (oC (.str "0123456789")))))) oNil)))))))
    (fun r ρ => ∃ ds s k3, ρ = [.ow true (.li ds), .pu (.int m), .pu (.str s), k3] ∧ DOK ds ∧ (s.length : Int) + r.length = m ∧ ASC s ∧ Nw k3) (ds := rangeD 0 (m.toNat - 1)) (ρ := [.ow true (.li ds0), .pu (.int m), .pu (.str ⟨#[c0]⟩), .no])
    (by
      rintro d r ρ hdr ⟨ds, s, k3, rfl, hd, hl, ha, hk⟩
      obtain ⟨c, ds', hd', hc, e⟩ := pickS hd (s := ("abcdefghijklmnopqrstuvwxyz" : Str) ++ "0123456789") (by decide +kernel) (by decide +kernel)
      rw [List.length_cons] at hl
      refine ⟨[.ow true (.li ds), .pu (.int m), .pu (.str s), .pu d], [.ow true (.li ds'), .pu (.int m), .pu (.str (s ++ ⟨#[c]⟩)), .pu d], ?_, .inl ?_, ds', _, _, rfl, hd', ?_, asc_app ha (asc_one asc_lettersd hc), rfl⟩
      · have hk : okS (some k3) = true := hk
        simp [setSl_ok, hk]
      · have z1 : (Str.ofString "abcdefghijklmnopqrstuvwxyz").length + (Str.ofString "0123456789").length ≤ 16000000 := by decide +kernel
        have z2 : s.length + (⟨#[c]⟩ : Str).length ≤ 16000000 := by rw [len_one]; omega
        simp [ap_var, z1, e, z2, setSl_eq]
      · rw [Str.length_append, len_one]; push_cast; omega) ⟨ds0, _, _, rfl, hd0, by rw [len_one]; unfold rangeD; simp; omega, asc_one asc_letters hc0, rfl⟩
  subst h2
  refine ⟨s1, ds1, h3, by simpa using h4, h5, ?_⟩
  simp [g__law_spelt, fnOf_eq, b__law_spelt, ap_var, e0, setSl_eq, hr, h1, ap_retV]
end K01
namespace K01
open PySem Ow
def d3 : Bool := (List.range 1000).all fun k => decide ((Str.ofString (toString (k : Int))).length ≤ 3) && (Str.ofString (toString (k : Int))).cps.toList.all (fun c => decide (48 ≤ c ∧ c < 58))
theorem d3_ok : d3 = true := by decide +kernel
theorem d3_at {i : Int} (h0 : 0 ≤ i) (h1 : i < 1000) : (Str.ofString (toString i)).length ≤ 3 ∧ (∀ c ∈ (Str.ofString (toString i)).cps.toList, 48 ≤ c ∧ c < 58) := by
  have h := d3_ok
  unfold d3 at h
  have h2 := List.all_eq_true.mp h i.toNat (List.mem_range.mpr (by omega))
  rw [Int.toNat_of_nonneg h0, Bool.and_eq_true_iff] at h2
  refine ⟨of_decide_eq_true h2.1, fun c hc => ?_⟩
  exact of_decide_eq_true (List.all_eq_true.mp h2.2 c hc)
theorem log_ok {i : Int} (h0 : 0 ≤ i) (h1 : i < 1000) : i.natAbs.log2 < 1920 := by
  have : i.natAbs < 2 ^ 10 := by omega
  by_cases hz : i.natAbs = 0
  · rw [hz]; decide
  · have := (Nat.log2_lt hz).mpr this
    omega
def SK (n : Nat) (d : D) : Prop := ∃ s : Str, d = .str s ∧ s.length ≤ n ∧ ASC s
theorem sk_lit {s : Str} {n : Nat} (h : (decide (s.length ≤ n) && s.cps.toList.all (fun c => decide (c < 128))) = true) : SK n (.str s) := by
  rw [Bool.and_eq_true_iff] at h
  exact ⟨s, rfl, of_decide_eq_true h.1, fun c hc => of_decide_eq_true (List.all_eq_true.mp h.2 c hc)⟩
theorem sk_mono {n m : Nat} {d : D} (h : SK n d) (e : n ≤ m) : SK m d := by
  obtain ⟨s, h1, h2, h3⟩ := h
  exact ⟨s, h1, Nat.le_trans h2 e, h3⟩
def Res (xs : List D) : Prop := 0 < xs.length ∧ xs.length ≤ 1000 ∧ ∀ x ∈ xs, SK 8 x
theorem seven {r : Int} (h0 : 0 ≤ r) (h1 : r < 7) : SK 12 (([.str "", .str " ", .str "\n", .str "  ", .str " \n", .str "\n\n", .str "\n "] : List D)[r.toNat]'(by simp; omega)) := by
  have h : r = 0 ∨ r = 1 ∨ r = 2 ∨ r = 3 ∨ r = 4 ∨ r = 5 ∨ r = 6 := by omega
  rcases h with rfl | rfl | rfl | rfl | rfl | rfl | rfl <;> exact sk_lit (by decide +kernel)
theorem piece {ds : List D} (h : DOK ds) {xs : List D} (hx : Res xs) : ∃ y ds', DOK ds' ∧ SK 12 y ∧ g__law_piece [.ow true (.li ds), .pu (.list xs)] = .ret (.pu y) [.ow true (.li ds'), .pu (.list xs)] := by
  obtain ⟨w, ds1, hd1, hw0, hw1, e1⟩ := draw h (m := 12) (by decide) (by decide)
  by_cases c1 : w < 3
  · obtain ⟨r, ds2, hd2, hr0, hr1, e2⟩ := draw hd1 (m := 7) (by decide) (by decide)
    refine ⟨_, ds2, hd2, seven hr0 hr1, ?_⟩
    have hlt : r.toNat < 7 := by omega
    simp [g__law_piece, fnOf_eq, b__law_piece, ap_var, setSl_eq, e1, c1, e2, atI_nn hr0, hlt]
  by_cases c2 : w < 5
  · obtain ⟨c, ds2, hd2, hc, e2⟩ := pickS hd1 (s := "!\"#$&'()*+,-./:;<=>?\x40[\\]^_`{|}~") (by decide +kernel) (by decide +kernel)
    refine ⟨_, ds2, hd2, ⟨_, rfl, by rw [len_one]; decide, asc_one (by unfold ASC; decide +kernel) hc⟩, ?_⟩
    simp [g__law_piece, fnOf_eq, b__law_piece, ap_var, setSl_eq, e1, c1, c2, e2]
  by_cases c3 : w < 7
  · obtain ⟨c, ds2, hd2, hc, e2⟩ := pickS hd1 (s := "(){}[],;:=.") (by decide +kernel) (by decide +kernel)
    refine ⟨_, ds2, hd2, ⟨_, rfl, by rw [len_one]; decide, asc_one (by unfold ASC; decide +kernel) hc⟩, ?_⟩
    simp [g__law_piece, fnOf_eq, b__law_piece, ap_var, setSl_eq, e1, c1, c2, c3, e2]
  by_cases c4 : w < 9
  · obtain ⟨r, ds2, hd2, hr0, hr1, e2⟩ := draw hd1 (m := 9) (by decide) (by decide)
    obtain ⟨s, ds3, hd3, hs, ha, e3⟩ := spelt hd2 (m := 1 + r) (by omega) (by omega)
    refine ⟨_, ds3, hd3, ⟨s, rfl, by omega, ha⟩, ?_⟩
    simp [g__law_piece, fnOf_eq, b__law_piece, ap_var, setSl_eq, e1, c1, c2, c3, c4, e2, e3]
  by_cases c5 : w = 9
  · subst c5
    obtain ⟨r, ds2, hd2, hr0, hr1, e2⟩ := draw hd1 (m := 1000) (by decide) (by decide)
    obtain ⟨h1, h2⟩ := d3_at hr0 hr1
    refine ⟨_, ds2, hd2, ⟨_, rfl, Nat.le_trans h1 (by decide), fun c hc => Nat.lt_trans (h2 c hc).2 (by decide)⟩, ?_⟩
    have hs := log_ok hr0 hr1
    simp [g__law_piece, fnOf_eq, b__law_piece, ap_var, setSl_eq, e1, e2, eqInt, hs]
  by_cases c6 : w = 10
  · subst c6
    obtain ⟨y, ds2, hd2, hy, e2⟩ := pickL hd1 hx.1 (by have := hx.2.1; omega)
    refine ⟨y, ds2, hd2, sk_mono (hx.2.2 y hy) (by decide), ?_⟩
    simp [g__law_piece, fnOf_eq, b__law_piece, ap_var, setSl_eq, e1, e2, eqInt]
  · obtain ⟨c, ds2, hd2, hc, e2⟩ := pickS hd1 (s := ("ABCDEFGHIJKLMNOPQRSTUVWXYZ" : Str) ++ "0123456789") (by decide +kernel) (by decide +kernel)
    have z1 : (Str.ofString "ABCDEFGHIJKLMNOPQRSTUVWXYZ").length + (Str.ofString "0123456789").length ≤ 16000000 := by decide +kernel
    refine ⟨_, ds2, hd2, ⟨_, rfl, by rw [len_one]; decide, asc_one (by unfold ASC; decide +kernel) hc⟩, ?_⟩
    simp [g__law_piece, fnOf_eq, b__law_piece, ap_var, setSl_eq, e1, c1, c2, c3, c4, c5, c6, e2, eqInt, z1]
end K01
namespace K01
open PySem Ow
theorem rangeD_len (lo : Int) (n : Nat) : (rangeD lo n).length = n := by unfold rangeD; simp
theorem strs_of {n : Nat} : ∀ {ys : List D}, (∀ y ∈ ys, SK n y) → ∃ ss : List Str, ys = ss.map PyData.str ∧ ∀ s ∈ ss, s.length ≤ n ∧ ASC s
  | [], _ => ⟨[], rfl, fun s hs => by cases hs⟩
  | y :: ys, h => by
    obtain ⟨s, rfl, h1, h2⟩ := h y List.mem_cons_self
    obtain ⟨ss, rfl, h3⟩ := strs_of (ys := ys) fun y hy => h y (List.mem_cons_of_mem _ hy)
    refine ⟨s :: ss, rfl, fun t ht => ?_⟩
    rcases List.mem_cons.mp ht with rfl | ht
    · exact ⟨h1, h2⟩
    · exact h3 t ht
theorem sum_le {n : Nat} : ∀ {ss : List Str}, (∀ s ∈ ss, s.length ≤ n ∧ ASC s) → (ss.map (·.length)).sum ≤ n * ss.length
  | [], _ => by simp
  | s :: ss, h => by
    have h1 := (h s List.mem_cons_self).1
    have h2 := sum_le (ss := ss) fun s hs => h s (List.mem_cons_of_mem _ hs)
    simp only [List.map_cons, List.sum_cons, List.length_cons, Nat.mul_succ]
    omega
theorem join_list (ss : List Str) : (Txt.join "" ss).cps.toList = (ss.map fun s => s.cps.toList).flatten := by
  show (Builtin.Str.glued "" ss).cps.toList = _
  rw [StrLaws.glued_eq_join]
  induction ss with
  | nil => rfl
  | cons x r ih =>
    cases r with
    | nil => simp [Str.join]
    | cons y r =>
      have e : (Str.join "" (x :: y :: r)).cps.toList = x.cps.toList ++ (Str.join "" (y :: r)).cps.toList := by
        show ((x ++ "") ++ Str.join "" (y :: r)).cps.toList = _
        rw [Str.cps_append, Str.cps_append, Array.toList_append, Array.toList_append]
        have : (Str.ofString "").cps.toList = [] := by decide +kernel
        rw [this, List.append_nil]
      rw [e, ih]
      rfl
theorem len_list (s : Str) : s.length = s.cps.toList.length := rfl
theorem join_sk {n : Nat} {ss : List Str} (h : ∀ s ∈ ss, s.length ≤ n ∧ ASC s) : (Txt.join "" ss).length ≤ n * ss.length ∧ ASC (Txt.join "" ss) := by
  constructor
  · rw [len_list, join_list, List.length_flatten, List.map_map]
    exact sum_le h
  · intro c hc
    rw [join_list] at hc
    obtain ⟨l, hl, hc⟩ := List.mem_flatten.mp hc
    obtain ⟨s, hs, rfl⟩ := List.mem_map.mp hl
    exact (h s hs).2 c hc
theorem neStr (a b : Str) (ha : ASC a) (hb : ASC b) : fNe (.str a) (.str b) = some (.pu (.bool (!decide (a = b)))) := by
  have sh : ∀ x : Str, ASC x → SeqAt.shaped (.str x) = true := fun x hx => by
    unfold SeqAt.shaped
    rw [Bool.and_eq_true_iff]
    refine ⟨?_, rfl⟩
    show x.cps.all (· < 0x110000) = true
    rw [Array.all_eq_true']
    intro c hc
    have := hx c (by simpa using hc)
    exact decide_eq_true (by omega)
  unfold fNe
  rw [if_pos ⟨sh a ha, sh b hb⟩]
  rfl
theorem rep_list (x : Str) (n : Int) : (repT x n).cps.toList = if n < 1 then [] else if (n == 1 || x.length == 0) = true then x.cps.toList else (List.replicate n.toNat x.cps.toList).flatten := by
  unfold repT Txt.mul
  split
  · rfl
  · split
    · rfl
    · have : ∀ (k : Nat) (acc : Array Nat), ((List.replicate k x.cps).foldl (· ++ ·) acc).toList = acc.toList ++ (List.replicate k x.cps.toList).flatten := by
        intro k
        induction k with
        | zero => intro acc; simp
        | succ k ih => intro acc; rw [List.replicate_succ, List.foldl_cons, ih, List.replicate_succ, List.flatten_cons, Array.toList_append, List.append_assoc]
      show ((List.replicate n.toNat x.cps).foldl (· ++ ·) #[]).toList = _
      rw [this]
      rfl
theorem rep_asc {x : Str} {n : Int} (h : ASC x) : ASC (repT x n) := by
  intro c hc
  rw [rep_list] at hc
  split at hc
  · cases hc
  · split at hc
    · exact h c hc
    · obtain ⟨l, hl, hc⟩ := List.mem_flatten.mp hc
      rw [List.eq_of_mem_replicate hl] at hc
      exact h c hc
theorem rep_len (x : Str) {n : Int} (h : 0 ≤ n) : (repT x n).length ≤ x.length * n.toNat := by
  rw [len_list, rep_list]
  split
  · simp
  · split
    · rename_i h1 h2
      have : 1 ≤ n.toNat := by omega
      calc x.cps.toList.length = x.length * 1 := by rw [Nat.mul_one]; rfl
        _ ≤ _ := Nat.mul_le_mul_left _ this
    · rw [List.length_flatten, List.map_replicate, List.sum_replicate_nat, Nat.mul_comm]
      exact Nat.le_refl _
theorem cut_asc {x : Str} {lo hi : Option Int} (h : ASC x) : ASC (L2.cutS x lo hi) := fun c hc => by
  have hc : c ∈ (x.cps.toList.drop (HT.sIx x.length 0 lo)).take (HT.sIx x.length x.length hi - HT.sIx x.length 0 lo) := hc
  exact h c (List.mem_of_mem_drop (List.mem_of_mem_take hc))
theorem cut_len (x : Str) (k : Nat) : (L2.cutS x none (some (k : Int))).length ≤ k := by
  have h : (L2.cutS x none (some (k : Int))).length = ((x.cps.toList.drop (HT.sIx x.length 0 none)).take (HT.sIx x.length x.length (some (k : Int)) - HT.sIx x.length 0 none)).length := rfl
  rw [h, List.length_take]
  refine Nat.le_trans (Nat.min_le_left _ _) ?_
  rw [HT.sIx_nat, HT.sIx_none, Nat.sub_zero]
  exact Nat.min_le_left _ _
theorem six {F : Str} (h0 : 0 < F.length) (h1 : F.length ≤ 300) : ∃ q : Int, fDiv (.int 6000) (.int F.length) = some (.pu (.int q)) ∧ mulSok F (q + 1) = true ∧ (repT F (q + 1)).length ≤ 16000000 := by
  have hd0 : divOk 6000 (F.length : Int) = true := divOk_of (by omega) (by omega)
  have hq : (6000 : Int) / F.length ≤ 6000 := Int.ediv_le_self _ (by decide)
  have hq0 : 0 ≤ (6000 : Int) / F.length := Int.ediv_nonneg (by decide) (by omega)
  refine ⟨(6000 : Int) / F.length, by rw [f_div, if_pos hd0], ?_⟩
  generalize (6000 : Int) / F.length = q at hq hq0
  have hm : F.length * (q + 1).toNat ≤ 300 * 6001 := Nat.mul_le_mul (by omega) (by omega)
  have hm2 : F.length * (q + 1).toNat ≤ 16000000 := by omega
  exact ⟨decide_eq_true ⟨by omega, by omega, hm2⟩, Nat.le_trans (rep_len F (by omega)) hm2⟩
theorem drawn {ds : List D} (h : DOK ds) {xs : List D} (hx : Res xs) : ∃ y ds', DOK ds' ∧ SK 6000 y ∧ g__law_drawn_text [.ow true (.li ds), .pu (.list xs)] = .ret (.pu y) [.ow true (.li ds'), .pu (.list xs)] := by
  obtain ⟨m, ds1, hd1, hm0, hm1, e1⟩ := draw h (m := 24) (by decide) (by decide)
  have hr : (-4611686018427387904 ≤ m ∧ m < 4611686018427387904) := by omega
  obtain ⟨ys, ρ', h1, ⟨ds2, hd2, rfl⟩, h3, h4⟩ := lcL_inv (vs := [3]) (g := gNm 3) (oe := oFrz (oCall g__law_piece (oCons (oVar 0) (oCons (oPu (oKeep (oVar 1))) oNil)))) (P := SK 12)
    (fun ρ => ∃ ds, DOK ds ∧ ρ = [.ow true (.li ds), .pu (.list xs), .no, .no]) (ds := rangeD 0 m.toNat) (ρ := [.ow true (.li ds1), .pu (.list xs), .no, .no])
    (by
      rintro d hdr ρ ⟨ds, hd, rfl⟩
      obtain ⟨y, ds', hd', hy, e⟩ := piece hd hx
      refine ⟨y, [.ow true (.li ds), .pu (.list xs), .no, .pu d], [.ow true (.li ds'), .pu (.list xs), .no, .pu d], ?_, ?_, hy, ds', hd', rfl⟩
      · simp [setSl_eq]
      · simp [ap_var, e]) ⟨ds1, hd1, rfl⟩
  rw [rangeD_len] at h3
  obtain ⟨ss, rfl, hss⟩ := strs_of h4
  rw [List.length_map] at h3
  obtain ⟨j1, j2⟩ := join_sk hss
  have hsum := sum_le hss
  have z1 : m.toNat ≤ 16000000 := by omega
  have z0 : (Str.ofString "").length = 0 := by decide +kernel
  have z2 : (ss.map (·.length)).sum + ss.length * (Str.ofString "").length ≤ 16000000 := by rw [z0]; omega
  obtain ⟨b, ds3, hd3, e3⟩ := rare hd2 (m := 16) (by decide) (by decide)
  have hF : ASC "" := by unfold ASC; decide +kernel
  generalize hj : Txt.join (Str.ofString "") ss = F at j1 j2
  have hFl : F.length ≤ 16000000 := by omega
  rcases Classical.em (b = true ∧ F ≠ Str.ofString "") with hb | hb
  · have hpos : 0 < F.length := by
      rcases Nat.eq_zero_or_pos F.length with q | q
      · exfalso
        apply hb.2
        have q1 : F.cps = #[] := Array.size_eq_zero_iff.mp q
        have q2 : (Str.ofString "").cps = #[] := by decide +kernel
        cases F
        simp only at q1
        subst q1
        show (⟨#[]⟩ : Str) = _
        rw [← q2]
      · exact q
    obtain ⟨q, hd0, hmul, hrl⟩ := six hpos (by omega)
    refine ⟨.str (L2.cutS (repT F (q + 1)) none (some 6000)), ds3, hd3, ⟨_, rfl, ?_, cut_asc (rep_asc j2)⟩, ?_⟩
    · exact cut_len _ 6000
    · simp [-f_div, g__law_drawn_text, fnOf_eq, b__law_drawn_text, ap_var, setSl_eq, e1, hr, lc1_eq, okW, loose, rangeD_len, z1, wipeR, h1, lcE, restR, z2, hj, e3, hb.1, neStr _ _ j2 hF, hb.2, hFl, hd0, hmul, hrl, ap_retV]
  · refine ⟨.str F, ds3, hd3, ⟨_, rfl, by omega, j2⟩, ?_⟩
    cases b with
    | false => simp [g__law_drawn_text, fnOf_eq, b__law_drawn_text, ap_var, setSl_eq, e1, hr, lc1_eq, okW, loose, rangeD_len, z1, wipeR, h1, lcE, restR, z2, hj, e3, ap_retV]
    | true =>
      have : F = Str.ofString "" := Classical.byContradiction fun q => hb ⟨rfl, q⟩
      subst this
      simp [g__law_drawn_text, fnOf_eq, b__law_drawn_text, ap_var, setSl_eq, e1, hr, lc1_eq, okW, loose, rangeD_len, z1, wipeR, h1, lcE, restR, z2, hj, e3, neStr _ _ hF hF, ap_retV]
end K01
namespace K01
open PySem Ow
def WI (xs : List D) (n : Nat) (ρ : Rho) : Prop := ∃ ds ws k3 k4 k5 k6 k7 k8, ρ = [.ow true (.li ds), .pu (.list xs), .ow false (.li ws), k3, k4, k5, k6, k7, k8] ∧ DOK ds ∧ (∀ y ∈ ws, SK 6001 y) ∧ ws.length ≤ n ∧
  okS (some k3) = true ∧ okS (some k4) = true ∧ okS (some k5) = true ∧ okS (some k6) = true ∧ okS (some k7) = true ∧ okS (some k8) = true
theorem cut_le (x : Str) (lo hi : Option Int) : (L2.cutS x lo hi).length ≤ x.length := L2.cutS_length x lo hi
theorem sk_app {a b : Str} {n m k : Nat} (ha : a.length ≤ n) (ha2 : ASC a) (hb : b.length ≤ m) (hb2 : ASC b) (h : n + m ≤ k) : SK k (.str (a ++ b)) := ⟨_, rfl, by rw [Str.length_append]; omega, asc_app ha2 hb2⟩
theorem asc_lit {s : Str} (h : s.cps.toList.all (fun c => decide (c < 128)) = true) : ASC s := fun c hc => of_decide_eq_true (List.all_eq_true.mp h c hc)
theorem loop1 {xs : List D} (hx : Res xs) {ρ : Rho} (h : WI xs 16 ρ) : ∃ ρ', forL (gNm 3) (oDrop (oPu (oMut 2 fExtend (oCons (oPu (oFrz (oLst (oCons (oKeep (oVar 3)) (oCons (oFrz (oBin fAdd (oVar 3) (oPu (oFrz (oCall g__law_pick (oCons (oVar 0) (oCons (oPu (oC (.str "a0sZ_\n"))) oNil))))))) (oCons (oFrz (oSl (oVar 3) oNoPart (oPart (oFrz (oBin fSub (oPu (oFrz (oLen (oVar 3)))) (oPu (oC (.int 1)))))))) (oCons (oFrz (oSl (oVar 3) (oPart (oC (.int 1))) oNoPart)) oNil))))))) oNil)))) xs ρ = .nx ρ' ∧ WI xs 4016 ρ' := by
  refine (forL_inv (fun r ρ => WI xs (4016 - 4 * r.length) ρ ∧ r.length ≤ 1000) ?_ ⟨?_, hx.2.1⟩).imp fun ρ' q => ⟨q.1, q.2.1⟩
  · rintro d r ρ hd ⟨⟨ds, ws, k3, k4, k5, k6, k7, k8, rfl, hd1, hw, hl, q3, q4, q5, q6, q7, q8⟩, hr⟩
    obtain ⟨s, rfl, hs1, hs2⟩ := hx.2.2 d hd
    obtain ⟨c, ds', hd', hc, e⟩ := pickS hd1 (s := "a0sZ_\n") (by decide +kernel) (by decide +kernel)
    rw [List.length_cons] at hl hr
    have ha : ASC ⟨#[c]⟩ := asc_one (asc_lit (by decide +kernel)) hc
    have z1 : s.length + (⟨#[c]⟩ : Str).length ≤ 16000000 := by rw [len_one]; omega
    have z2 : s.length ≤ 16000000 := by omega
    have z3 : ws.length + 4 ≤ 16000000 := by omega
    refine ⟨_, _, by rw [gNm_eq, setSl_ok, if_pos (by simpa using q3)], .inl (by simp [ap_var, e, z1, z2, z3]; rfl), ⟨ds', _, .pu (.str s), k4, k5, k6, k7, k8, rfl, hd', ?_, ?_, rfl, q4, q5, q6, q7, q8⟩, by omega⟩
    · intro y hy
      rcases List.mem_append.mp hy with hy | hy
      · exact hw y hy
      · simp only [List.mem_cons, List.not_mem_nil, or_false] at hy
        rcases hy with rfl | rfl | rfl | rfl
        · exact ⟨_, rfl, by omega, hs2⟩
        · exact sk_app hs1 hs2 (Nat.le_of_eq (len_one c)) ha (by decide)
        · exact ⟨_, rfl, Nat.le_trans (cut_le _ _ _) (by omega), cut_asc hs2⟩
        · exact ⟨_, rfl, Nat.le_trans (cut_le _ _ _) (by omega), cut_asc hs2⟩
    · simp; omega
  · obtain ⟨ds, ws, k3, k4, k5, k6, k7, k8, rfl, hd1, hw, hl, q⟩ := h
    exact ⟨ds, ws, k3, k4, k5, k6, k7, k8, rfl, hd1, hw, by have := hx.2.1; omega, q⟩
theorem loop2 {xs : List D} {ρ : Rho} (h : WI xs 4016 ρ) : ∃ ρ', forL (gNm 4) (oSeq (oSet 5 (oCall g__law_spelt (oCons (oVar 0) (oCons (oPu (oKeep (oVar 4))) oNil))))
 (oSeq (oSet 6 (oCall g__law_draw (oCons (oVar 0) (oCons (oPu (oKeep (oVar 4))) oNil))))
 (oSeq (oSet 7 (oCall g__law_pick (oCons (oVar 0) (oCons (oPu (oFrz (oBin fAdd (oPu (oFrz (oBin fAdd (oPu (oFrz (oCall g__law_capitals oNil))) (oPu (oFrz (oCall g__law_signs oNil)))))) (oPu (oC (.str " \n")))))) oNil))))
 (oSeq (oDrop (oPu (oMut 2 fExtend (oCons (oPu (oFrz (oLst (oCons (oKeep (oVar 5)) (oCons (oFrz (oBin fAdd (oPu (oFrz (oBin fAdd (oPu (oFrz (oSl (oVar 5) oNoPart (oPart (oKeep (oVar 6)))))) (oVar 7)))) (oPu (oFrz (oSl (oVar 5) (oPart (oFrz (oBin fAdd (oVar 6) (oPu (oC (.int 1)))))) oNoPart))))) (oCons (oFrz (oBin fAdd (oVar 5) (oPu (oC (.str "\n"))))) (oCons (oFrz (oBin fAdd (oPu (oC (.str " "))) (oVar 5))) oNil))))))) oNil))))
 (oDrop (oPu (oMutK 2 fAppend (oCons (oFrz (oBin fAdd (oPu (oFrz (oCB fStr1 (oCons (oPu (oFrz (oCall g__law_draw (oCons (oVar 0) (oCons (oPu (oC (.int 10))) oNil))))) oNil)))) (oPu (oFrz (oSl (oVar 5) (oPart (oC (.int 1))) oNoPart))))) oNil)))))))) [.int 1, .int 2, .int 7, .int 8, .int 9] ρ = .nx ρ' ∧ WI xs 4041 ρ' := by
  refine (forL_inv (fun r ρ => WI xs (4041 - 5 * r.length) ρ ∧ r.length ≤ 5) (ds := [.int 1, .int 2, .int 7, .int 8, .int 9]) (ρ := ρ) ?_ ⟨by simpa using h, by simp⟩).imp fun ρ' q => ⟨q.1, q.2.1⟩
  rintro d r ρ hd ⟨⟨ds, ws, k3, k4, k5, k6, k7, k8, rfl, hd1, hw, hl, q3, q4, q5, q6, q7, q8⟩, hr⟩
  obtain ⟨m, rfl, hm1, hm2⟩ : ∃ m : Int, d = .int m ∧ 1 ≤ m ∧ m ≤ 9 := by
    simp only [List.mem_cons, List.not_mem_nil, or_false] at hd
    rcases hd with rfl | rfl | rfl | rfl | rfl <;> exact ⟨_, rfl, by decide, by decide⟩
  obtain ⟨s, ds2, hd2, hs1, hs2, e2⟩ := spelt hd1 (m := m) hm1 (by omega)
  obtain ⟨pl, ds3, hd3, hp0, hp1, e3⟩ := draw hd2 (m := m) (by omega) (by omega)
  obtain ⟨c, ds4, hd4, hc, e4⟩ := pickS hd3 (s := (("ABCDEFGHIJKLMNOPQRSTUVWXYZ" : Str) ++ "!\"#$&'()*+,-./:;<=>?\x40[\\]^_`{|}~") ++ " \n") (by decide +kernel) (by decide +kernel)
  obtain ⟨t, ds5, hd5, ht0, ht1, e5⟩ := draw hd4 (m := 10) (by decide) (by decide)
  rw [List.length_cons] at hl hr
  have ha : ASC ⟨#[c]⟩ := asc_one (asc_lit (by decide +kernel)) hc
  have hl9 : s.length ≤ 9 := by omega
  have z0 : (Str.ofString "ABCDEFGHIJKLMNOPQRSTUVWXYZ").length + (Str.ofString "!\"#$&'()*+,-./:;<=>?\x40[\\]^_`{|}~").length ≤ 16000000 := by decide +kernel
  have z00 : (Str.ofString "ABCDEFGHIJKLMNOPQRSTUVWXYZ" ++ Str.ofString "!\"#$&'()*+,-./:;<=>?\x40[\\]^_`{|}~").length + (Str.ofString " \n").length ≤ 16000000 := by decide +kernel
  have z1 : (Str.ofString "\n").length = 1 := by decide +kernel
  have z2 : (Str.ofString " ").length = 1 := by decide +kernel
  have c1 := cut_le s none (some pl)
  have c2 := cut_le s (some (pl + 1)) none
  have c3 := cut_le s (some 1) none
  have z3 : s.length ≤ 16000000 := by omega
  have z4 : (L2.cutS s none (some pl)).length + (⟨#[c]⟩ : Str).length ≤ 16000000 := by rw [len_one]; omega
  have z5 : (L2.cutS s none (some pl) ++ (⟨#[c]⟩ : Str)).length + (L2.cutS s (some (pl + 1)) none).length ≤ 16000000 := by rw [Str.length_append, len_one]; omega
  have z6 : s.length + (Str.ofString "\n").length ≤ 16000000 := by omega
  have z7 : (Str.ofString " ").length + s.length ≤ 16000000 := by omega
  have z8 : ws.length + 4 ≤ 16000000 := by omega
  have z9 : ws.length + 4 < 16000000 := by omega
  obtain ⟨t1, t2⟩ := d3_at ht0 (by omega)
  have t3 := log_ok ht0 (by omega)
  have t4 : (Str.ofString (toString t)).length + (L2.cutS s (some 1) none).length ≤ 16000000 := by omega
  have t5 : ASC (Str.ofString (toString t)) := fun x hx => Nat.lt_trans (t2 x hx).2 (by decide)
  have t4' : (Str.ofString t.repr).length + (L2.cutS s (some 1) none).length ≤ 16000000 := t4
  refine ⟨_, _, by rw [gNm_eq, setSl_ok, if_pos (by simpa using q4)], .inl (by simp [ap_var, setSl_ok, q5, q6, q7, e2, e3, e4, z0, z00, z3, z4, z5, z6, z7, z8, e5, t3, t4', z9]; rfl), ⟨ds5, _, k3, .int m |> .pu, .pu (.str s), .pu (.int pl), .pu (.str ⟨#[c]⟩), k8, rfl, hd5, ?_, ?_, q3, rfl, rfl, rfl, rfl, q8⟩, by omega⟩
  · intro y hy
    simp only [List.append_assoc, List.cons_append, List.nil_append, List.mem_append, List.mem_cons, List.not_mem_nil, or_false] at hy
    rcases hy with hy | rfl | rfl | rfl | rfl | rfl
    · exact hw y hy
    · exact ⟨_, rfl, by omega, hs2⟩
    · exact sk_app (n := 10) (by rw [Str.length_append, len_one]; omega) (asc_app (cut_asc hs2) ha) (m := 9) (by omega) (cut_asc hs2) (by decide)
    · exact sk_app hl9 hs2 (Nat.le_of_eq z1) (asc_lit (by decide +kernel)) (by decide)
    · exact sk_app (Nat.le_of_eq z2) (asc_lit (by decide +kernel)) hl9 hs2 (by decide)
    · exact sk_app (n := 3) t1 t5 (m := 9) (by omega) (cut_asc hs2) (by decide)
  · simp; omega
theorem loop3 {xs : List D} {ρ : Rho} (h : WI xs 4041 ρ) : ∃ ρ', forL (gNm 4) (oSeq (oSet 8 (oCB fStr1 (oCons (oPu (oFrz (oCall g__law_draw (oCons (oVar 0) (oCons (oPu (oKeep (oVar 4))) oNil))))) oNil)))
 (oDrop (oPu (oMut 2 fExtend (oCons (oPu (oFrz (oLst (oCons (oKeep (oVar 8)) (oCons (oFrz (oBin fAdd (oPu (oC (.str "0"))) (oVar 8))) (oCons (oFrz (oBin fAdd (oPu (oFrz (oCall g__law_pick (oCons (oVar 0) (oCons (oPu (oC (.str "-+ a_."))) oNil))))) (oVar 8))) (oCons (oFrz (oBin fAdd (oVar 8) (oPu (oFrz (oCall g__law_pick (oCons (oVar 0) (oCons (oPu (oC (.str " \na_."))) oNil))))))) oNil))))))) oNil))))) [.int 10, .int 100, .int 300, .int 1000] ρ = .nx ρ' ∧ WI xs 4057 ρ' := by
  refine (forL_inv (fun r ρ => WI xs (4057 - 4 * r.length) ρ ∧ r.length ≤ 4) (ds := [.int 10, .int 100, .int 300, .int 1000]) (ρ := ρ) ?_ ⟨by simpa using h, by simp⟩).imp fun ρ' q => ⟨q.1, q.2.1⟩
  rintro d r ρ hd ⟨⟨ds, ws, k3, k4, k5, k6, k7, k8, rfl, hd1, hw, hl, q3, q4, q5, q6, q7, q8⟩, hr⟩
  obtain ⟨m, rfl, hm1, hm2⟩ : ∃ m : Int, d = .int m ∧ 1 ≤ m ∧ m ≤ 1000 := by
    simp only [List.mem_cons, List.not_mem_nil, or_false] at hd
    rcases hd with rfl | rfl | rfl | rfl <;> exact ⟨_, rfl, by decide, by decide⟩
  obtain ⟨t, ds2, hd2, ht0, ht1, e2⟩ := draw hd1 (m := m) (by omega) (by omega)
  obtain ⟨c, ds3, hd3, hc, e3⟩ := pickS hd2 (s := "-+ a_.") (by decide +kernel) (by decide +kernel)
  obtain ⟨c', ds4, hd4, hc', e4⟩ := pickS hd3 (s := " \na_.") (by decide +kernel) (by decide +kernel)
  rw [List.length_cons] at hl hr
  have ha : ASC ⟨#[c]⟩ := asc_one (asc_lit (by decide +kernel)) hc
  have ha' : ASC ⟨#[c']⟩ := asc_one (asc_lit (by decide +kernel)) hc'
  obtain ⟨t1, t2⟩ := d3_at ht0 (by omega)
  have t3 := log_ok ht0 (by omega)
  have t5 : ASC (Str.ofString (toString t)) := fun x hx => Nat.lt_trans (t2 x hx).2 (by decide)
  have z1 : (Str.ofString "0").length = 1 := by decide +kernel
  have z2 : (Str.ofString "0").length + (Str.ofString t.repr).length ≤ 16000000 := by show _ + (Str.ofString (toString t)).length ≤ _; omega
  have z3 : (⟨#[c]⟩ : Str).length + (Str.ofString t.repr).length ≤ 16000000 := by show _ + (Str.ofString (toString t)).length ≤ _; rw [len_one]; omega
  have z4 : (Str.ofString t.repr).length + (⟨#[c']⟩ : Str).length ≤ 16000000 := by show (Str.ofString (toString t)).length + _ ≤ _; rw [len_one]; omega
  have z8 : ws.length + 4 ≤ 16000000 := by omega
  refine ⟨_, _, by rw [gNm_eq, setSl_ok, if_pos (by simpa using q4)], .inl (by simp [ap_var, setSl_ok, q8, e2, e3, e4, t3, z2, z3, z4, z8]; rfl), ⟨ds4, _, k3, .int m |> .pu, k5, k6, k7, .pu (.str (Str.ofString t.repr)), rfl, hd4, ?_, ?_, q3, rfl, q5, q6, q7, rfl⟩, by omega⟩
  · intro y hy
    simp only [List.mem_append, List.mem_cons, List.not_mem_nil, or_false] at hy
    rcases hy with hy | rfl | rfl | rfl | rfl
    · exact hw y hy
    · exact ⟨_, rfl, Nat.le_trans t1 (by decide), t5⟩
    · exact sk_app (Nat.le_of_eq z1) (asc_lit (by decide +kernel)) t1 t5 (by decide)
    · exact sk_app (Nat.le_of_eq (len_one c)) ha t1 t5 (by decide)
    · exact sk_app t1 t5 (Nat.le_of_eq (len_one c')) ha' (by decide)
  · simp; omega
end K01
namespace K01
open PySem Ow
theorem words_ok {ds : List D} (h : DOK ds) {xs : List D} (hx : Res xs) : ∃ ws ds', DOK ds' ∧ (∀ y ∈ ws, SK 6001 y) ∧ ws.length ≤ 5000 ∧ g__law_words [.ow true (.li ds), .pu (.list xs)] = .ret (.nw (.li ws)) [.ow true (.li ds'), .pu (.list xs)] := by
  obtain ⟨ρ1, h1, w1⟩ := loop1 hx (ρ := [.ow true (.li ds), .pu (.list xs), .ow false (.li [.str "", .str "0", .str "00", .str "007", .str "255", .str "256", .str "0255", .str "999", .str "1000", .str "1_0", .str "0x1", .str "A", .str "z", .str "7a", .str "\n", .str " "]), .no, .no, .no, .no, .no, .no])
    ⟨ds, _, _, _, _, _, _, _, rfl, h, by
      intro y hy
      simp only [List.mem_cons, List.not_mem_nil, or_false] at hy
      rcases hy with rfl | rfl | rfl | rfl | rfl | rfl | rfl | rfl | rfl | rfl | rfl | rfl | rfl | rfl | rfl | rfl <;> exact sk_lit (by decide +kernel), by simp, rfl, rfl, rfl, rfl, rfl, rfl⟩
  obtain ⟨ρ2, h2, w2⟩ := loop2 w1
  obtain ⟨ρ3, h3, w3⟩ := loop3 w2
  obtain ⟨ds0, ws0, x3, x4, x5, x6, x7, x8, rfl, hd1, _⟩ := w1
  obtain ⟨ds0', ws0', y3, y4, y5, y6, y7, y8, rfl, hd2, _⟩ := w2
  obtain ⟨ds1, ws1, k3, k4, k5, k6, k7, k8, rfl, hd, hw, hl, q3, q4, q5, q6, q7, q8⟩ := w3
  obtain ⟨b, ds2, hd2, e2⟩ := rare hd (m := 16) (by decide) (by decide)
  cases b with
  | false =>
    refine ⟨ws1, ds2, hd2, hw, by omega, ?_⟩
    simp [g__law_words, fnOf_eq, b__law_words, ap_var, setSl_ok, h1, h2, h3, e2, ap_retV]
  | true =>
    have z1 : mulSok (Str.ofString "1") 4500 = true := by decide +kernel
    have z2 : mulSok (Str.ofString "0") 4500 = true := by decide +kernel
    have z3 : mulSok (Str.ofString "a") 6000 = true := by decide +kernel
    have z8 : ws1.length + 3 ≤ 16000000 := by omega
    have l1 : (Str.ofString "1").length = 1 := by decide +kernel
    have l2 : (Str.ofString "0").length = 1 := by decide +kernel
    have l3 : (Str.ofString "a").length = 1 := by decide +kernel
    have r1 := rep_len (Str.ofString "1") (n := 4500) (by decide)
    have r2 := rep_len (Str.ofString "0") (n := 4500) (by decide)
    have r3 := rep_len (Str.ofString "a") (n := 6000) (by decide)
    rw [l1] at r1
    rw [l2] at r2
    rw [l3] at r3
    have a1 : ASC (repT (Str.ofString "1") 4500) := rep_asc (asc_lit (by decide +kernel))
    have a2 : ASC (repT (Str.ofString "0") 4500) := rep_asc (asc_lit (by decide +kernel))
    have a3 : ASC (repT (Str.ofString "a") 6000) := rep_asc (asc_lit (by decide +kernel))
    generalize hg1 : repT (Str.ofString "1") 4500 = g1 at r1 a1
    generalize hg2 : repT (Str.ofString "0") 4500 = g2 at r2 a2
    generalize hg3 : repT (Str.ofString "a") 6000 = g3 at r3 a3
    refine ⟨ws1 ++ [.str g1, .str g2, .str g3], ds2, hd2, ?_, by simp; omega, ?_⟩
    · intro y hy
      simp only [List.mem_append, List.mem_cons, List.not_mem_nil, or_false] at hy
      rcases hy with hy | rfl | rfl | rfl
      · exact hw y hy
      · exact ⟨_, rfl, by omega, a1⟩
      · exact ⟨_, rfl, by omega, a2⟩
      · exact ⟨_, rfl, by omega, a3⟩
    · simp [g__law_words, fnOf_eq, b__law_words, ap_var, setSl_ok, h1, h2, h3, e2, ap_retV, z1, z2, z3, z8, hg1, hg2, hg3]
end K01
namespace K01
open PySem Ow
/-! the tokens of a text, plainly -/
def RUNs : Str := "abcdefghijklmnopqrstuvwxyzABCDEFGHIJKLMNOPQRSTUVWXYZ0123456789"
def run (c : Nat) : Bool := decide (c ∈ RUNs.cps.toList)
theorem run_t {c : Nat} (h : run c = true) : c ∈ (Str.ofString "abcdefghijklmnopqrstuvwxyzABCDEFGHIJKLMNOPQRSTUVWXYZ0123456789").cps := by simpa [run, RUNs] using h
theorem run_f {c : Nat} (h : run c = false) : ¬ c ∈ (Str.ofString "abcdefghijklmnopqrstuvwxyzABCDEFGHIJKLMNOPQRSTUVWXYZ0123456789").cps := by simpa [run, RUNs] using h
def tk (l : List Nat) : Str := ⟨l.toArray⟩
theorem tk_list (l : List Nat) : (tk l).cps.toList = l := rfl
theorem tk_of (s : Str) : tk s.cps.toList = s := by cases s; rfl
theorem tk_len (l : List Nat) : (tk l).length = l.length := by unfold tk Str.length; simp
def toks : List Nat → List (List Nat)
  | [] => []
  | c :: r => if run c = true then (c :: r.takeWhile run) :: toks (r.dropWhile run) else if c = 32 ∨ c = 10 then toks r else [c] :: toks r
termination_by l => l.length
decreasing_by
  · exact Nat.lt_succ_of_le (List.dropWhile_sublist _).length_le
  · exact Nat.lt_succ_self _
  · exact Nat.lt_succ_self _
theorem toks_run {c : Nat} {r : List Nat} (h : run c = true) : toks (c :: r) = (c :: r.takeWhile run) :: toks (r.dropWhile run) := by rw [toks, if_pos h]
theorem toks_blank {c : Nat} {r : List Nat} (h : run c = false) (h2 : c = 32 ∨ c = 10) : toks (c :: r) = toks r := by rw [toks, if_neg (by rw [h]; decide), if_pos h2]
theorem toks_sign {c : Nat} {r : List Nat} (h : run c = false) (h2 : ¬ (c = 32 ∨ c = 10)) : toks (c :: r) = [c] :: toks r := by rw [toks, if_neg (by rw [h]; decide), if_neg h2]
def wrd (l : List Nat) : D := .str (tk l)
def AL (l : List Nat) : Prop := ∀ c ∈ l, c < 128
theorem asc_al {l : List Nat} (h : AL l) : ASC (tk l) := h
theorem asc_c {a : Nat} (ha : a < 128) : ASC ⟨#[a]⟩ := fun c hc => by
  have : c = a := by simpa using hc
  rw [this]
  exact ha
def innerC : O Bool := oAnd (oTst (oBin fLt (oVar 3) (oPu (oFrz (oLen (oVar 0)))))) (oTst (oBin (fIn false) (oPu (oFrz (oBin fIx (oVar 0) (oVar 3)))) (oPu (oC (.str "abcdefghijklmnopqrstuvwxyzABCDEFGHIJKLMNOPQRSTUVWXYZ0123456789")))))
theorem inner {l : List Nat} (hl : l.length ≤ 100000) {k : Nat} (hk : k < l.length) {acc : List D} {kk : D} : ∃ ρ', oWhile innerC (oAug 3 (fInt2 fun i j => i + j) (oPu (oC (.int 1)))) [.pu (.str (tk l)), .ow false (.li acc), .pu kk, .pu (.int ((k + 1 : Nat) : Int))] = .nx ρ' ∧
    ∃ e : Nat, ρ' = [.pu (.str (tk l)), .ow false (.li acc), .pu kk, .pu (.int e)] ∧ k < e ∧ e ≤ l.length ∧ (l.drop (k + 1)).dropWhile run = l.drop e := by
  refine while_inv (fun ρ => ∃ e : Nat, ρ = [.pu (.str (tk l)), .ow false (.li acc), .pu kk, .pu (.int e)] ∧ k < e ∧ e ≤ l.length ∧ (l.drop (k + 1)).dropWhile run = (l.drop e).dropWhile run) _ (fun ρ => match ρ with | [_, _, _, .pu (.int e)] => l.length - e.toNat | _ => 0)
    ⟨k + 1, rfl, Nat.lt_succ_self _, hk, rfl⟩ ?_
  rintro ρ ⟨e, rfl, h1, h2, h3⟩
  have hz : (tk l).length ≤ 16000000 := by rw [tk_len]; omega
  by_cases he : e < l.length
  · have hc : l[e]? = some l[e] := List.getElem?_eq_getElem he
    have hd : l.drop e = l[e] :: l.drop (e + 1) := List.drop_eq_getElem_cons he
    have heI : (e : Int) < ((tk l).length : Nat) := by rw [tk_len]; omega
    generalize hx : l[e] = c at hc hd
    cases hr : run c with
    | true =>
      refine .inr ⟨[.pu (.str (tk l)), .ow false (.li acc), .pu kk, .pu (.int e)], [.pu (.str (tk l)), .ow false (.li acc), .pu kk, .pu (.int ((e + 1 : Nat) : Int))], ?_, .inl ?_, ⟨e + 1, rfl, by omega, he, ?_⟩, ?_⟩
      · simp [innerC, ap_var, hz, heI, atI_nn, tk_list, hc, inT_one, bin1_eq]
        exact run_t hr
      · simp [setSl_ok]
      · rw [h3, hd, List.dropWhile_cons_of_pos hr]
      · show l.length - ((e + 1 : Nat) : Int).toNat < l.length - (e : Int).toNat
        omega
    | false =>
      refine .inl ⟨[.pu (.str (tk l)), .ow false (.li acc), .pu kk, .pu (.int e)], ?_, e, rfl, h1, h2, ?_⟩
      · simp [innerC, ap_var, hz, heI, atI_nn, tk_list, hc, inT_one, bin1_eq]
        exact run_f hr
      · rw [h3, hd, List.dropWhile_cons_of_neg (by rw [hr]; decide)]
  · refine .inl ⟨[.pu (.str (tk l)), .ow false (.li acc), .pu kk, .pu (.int e)], ?_, e, rfl, h1, h2, ?_⟩
    · have heI : ¬ (e : Int) < ((tk l).length : Nat) := by rw [tk_len]; omega
      simp [innerC, ap_var, hz, heI, bin1_eq]
    · rw [h3, List.drop_eq_nil_of_le (by omega)]
      rfl
theorem cut_tk (l : List Nat) {k e : Nat} (h1 : k ≤ e) (h2 : e ≤ l.length) : L2.cutS (tk l) (some (k : Int)) (some (e : Int)) = tk ((l.drop k).take (e - k)) := by
  unfold L2.cutS
  rw [HT.sIx_nat, HT.sIx_nat, tk_len, Nat.min_eq_left h2, Nat.min_eq_left (by omega)]
  rfl
theorem word_is {l : List Nat} {k e : Nat} {c : Nat} (hd : l.drop k = c :: l.drop (k + 1)) (h1 : k < e) (h2 : e ≤ l.length) (h3 : (l.drop (k + 1)).dropWhile run = l.drop e) : (l.drop k).take (e - k) = c :: (l.drop (k + 1)).takeWhile run := by
  have h4 := List.takeWhile_append_dropWhile (p := run) (l := l.drop (k + 1))
  rw [h3] at h4
  have h5 : (l.drop (k + 1)).take (e - (k + 1)) ++ l.drop e = l.drop (k + 1) := by
    have := List.take_append_drop (e - (k + 1)) (l.drop (k + 1))
    rw [List.drop_drop, show k + 1 + (e - (k + 1)) = e by omega] at this
    exact this
  have h6 := List.append_cancel_right (h5.trans h4.symm)
  rw [hd, show e - k = (e - (k + 1)) + 1 by omega, List.take_succ_cons, h6]
theorem tokens_eq {l : List Nat} (ha : AL l) (hl : l.length ≤ 100000) : ∃ o, g_tokens_of [.pu (.str (tk l))] = .ret (.pu (.tuple ((toks l).map wrd))) o := by
  have hz : (tk l).length ≤ 16000000 := by rw [tk_len]; omega
  obtain ⟨ρ', h1, k, s3, rfl⟩ := while_inv (c := oTst (oBin fLt (oVar 2) (oPu (oFrz (oLen (oVar 0))))))
    (b := oSeq (oSet 3 (oBin fAdd (oVar 2) (oPu (oC (.int 1)))))
 (oSeq (oIfS (oTst (oBin (fIn false) (oPu (oFrz (oBin fIx (oVar 0) (oVar 2)))) (oPu (oC (.str "abcdefghijklmnopqrstuvwxyzABCDEFGHIJKLMNOPQRSTUVWXYZ0123456789")))))
 (oSeq (oWhile innerC (oAug 3 (fInt2 fun i j => i + j) (oPu (oC (.int 1)))))
 (oDrop (oPu (oMutK 1 fAppend (oCons (oFrz (oSl (oVar 0) (oPart (oKeep (oVar 2))) (oPart (oKeep (oVar 3))))) oNil)))))
 (oIfS (oAnd (oTst (oBin fNe (oPu (oFrz (oBin fIx (oVar 0) (oVar 2)))) (oPu (oC (.str " "))))) (oTst (oBin fNe (oPu (oFrz (oBin fIx (oVar 0) (oVar 2)))) (oPu (oC (.str "\n"))))))
 (oDrop (oPu (oMutK 1 fAppend (oCons (oFrz (oBin fIx (oVar 0) (oVar 2))) oNil))))
 oNext))
 (oSet 2 (oRes (oKeep (oVar 3))))))
    (fun ρ => ∃ (k : Nat) (acc : List (List Nat)) (s3 : Sl), ρ = [.pu (.str (tk l)), .ow false (.li (acc.map wrd)), .pu (.int k), s3] ∧ k ≤ l.length ∧ acc ++ toks (l.drop k) = toks l ∧ acc.length ≤ k ∧ okS (some s3) = true)
    (fun ρ => ∃ (k : Int) (s3 : Sl), ρ = [.pu (.str (tk l)), .ow false (.li ((toks l).map wrd)), .pu (.int k), s3]) (fun ρ => match ρ with | [_, _, .pu (.int k), _] => l.length - k.toNat | _ => 0)
    (ρ := [.pu (.str (tk l)), .ow false (.li []), .pu (.int 0), .no]) ⟨0, [], .no, rfl, Nat.zero_le _, rfl, Nat.le_refl _, rfl⟩ (by
      rintro ρ ⟨k, acc, s3, rfl, hk, hacc, hal, hs3⟩
      by_cases he : k < l.length
      · have hc : l[k]? = some l[k] := List.getElem?_eq_getElem he
        have hd : l.drop k = l[k] :: l.drop (k + 1) := List.drop_eq_getElem_cons he
        have hcm : l[k] < 128 := ha _ (List.getElem_mem he)
        have heI : (k : Int) < ((tk l).length : Nat) := by rw [tk_len]; omega
        have ham : (acc.map wrd).length < 16000000 := by rw [List.length_map]; omega
        have hal' : acc.length < 16000000 := by omega
        generalize hx : l[k] = c at hc hd hcm
        cases hr : run c with
        | true =>
          obtain ⟨ρ1, e1, e, rfl, h1, h2, h3⟩ := inner hl he (acc := acc.map wrd) (kk := .int k)
          refine .inr ⟨[.pu (.str (tk l)), .ow false (.li (acc.map wrd)), .pu (.int k), s3], [.pu (.str (tk l)), .ow false (.li ((acc ++ [c :: (l.drop (k + 1)).takeWhile run]).map wrd)), .pu (.int e), .pu (.int e)], ?_, .inl ?_, ⟨e, _, .pu (.int e), rfl, h2, ?_, ?_, rfl⟩, ?_⟩
          · simp [ap_var, hz, heI]
          · have hrt := run_t hr
            push_cast at e1
            simp [ap_var, hz, heI, atI_nn, tk_list, hc, inT_one, bin1_eq, setSl_ok, hs3, hrt, e1, hal', cut_tk l (Nat.le_of_lt h1) h2, word_is hd h1 h2 h3, wrd]
          · rw [← hacc, hd, toks_run hr, h3]
            simp
          · simp; omega
          · show l.length - (e : Int).toNat < l.length - (k : Int).toNat
            omega
        | false =>
          have hrf := run_f hr
          have a1 : ASC (Str.ofString " ") := asc_lit (by decide +kernel)
          have a2 : ASC (Str.ofString "\n") := asc_lit (by decide +kernel)
          have s1 : Str.ofString " " = ⟨#[32]⟩ := by decide +kernel
          have s2 : Str.ofString "\n" = ⟨#[10]⟩ := by decide +kernel
          have n1 := neStr _ _ (asc_c hcm) a1
          have n2 := neStr _ _ (asc_c hcm) a2
          rw [s1] at n1
          rw [s2] at n2
          by_cases hb : c = 32 ∨ c = 10
          · refine .inr ⟨[.pu (.str (tk l)), .ow false (.li (acc.map wrd)), .pu (.int k), s3], [.pu (.str (tk l)), .ow false (.li (acc.map wrd)), .pu (.int ((k + 1 : Nat) : Int)), .pu (.int ((k + 1 : Nat) : Int))], ?_, .inl ?_, ⟨k + 1, acc, .pu (.int ((k + 1 : Nat) : Int)), rfl, he, ?_, by omega, rfl⟩, ?_⟩
            · simp [ap_var, hz, heI]
            · rcases hb with hb | hb <;> subst hb <;> simp [ap_var, hz, heI, atI_nn, tk_list, hc, inT_one, bin1_eq, setSl_ok, hs3, hrf, hal', s1, s2, n1, n2]
            · rw [← hacc, hd, toks_blank hr hb]
            · show l.length - ((k + 1 : Nat) : Int).toNat < l.length - (k : Int).toNat
              omega
          · have hb1 : ¬ c = 32 := fun q => hb (.inl q)
            have hb2 : ¬ c = 10 := fun q => hb (.inr q)
            refine .inr ⟨[.pu (.str (tk l)), .ow false (.li (acc.map wrd)), .pu (.int k), s3], [.pu (.str (tk l)), .ow false (.li ((acc ++ [[c]]).map wrd)), .pu (.int ((k + 1 : Nat) : Int)), .pu (.int ((k + 1 : Nat) : Int))], ?_, .inl ?_, ⟨k + 1, _, .pu (.int ((k + 1 : Nat) : Int)), rfl, he, ?_, ?_, rfl⟩, ?_⟩
            · simp [ap_var, hz, heI]
            · simp [ap_var, hz, heI, atI_nn, tk_list, hc, inT_one, bin1_eq, setSl_ok, hs3, hrf, hal', s1, s2, n1, n2, hb1, hb2, show wrd [c] = .str ⟨#[c]⟩ from rfl]
            · rw [← hacc, hd, toks_sign hr hb]
              simp
            · simp; omega
            · show l.length - ((k + 1 : Nat) : Int).toNat < l.length - (k : Int).toNat
              omega
      · have heI : ¬ (k : Int) < ((tk l).length : Nat) := by rw [tk_len]; omega
        refine .inl ⟨[.pu (.str (tk l)), .ow false (.li (acc.map wrd)), .pu (.int k), s3], ?_, k, s3, ?_⟩
        · simp [ap_var, hz, heI]
        · rw [List.drop_eq_nil_of_le (by omega), show toks [] = [] by rw [toks], List.append_nil] at hacc
          rw [hacc])
  refine ⟨[.pu (.str (tk l))], ?_⟩
  simp [g_tokens_of, fnOf_eq, b_tokens_of, ap_var, setSl_ok]
  rw [show (oAnd (oTst (oBin fLt (oVar 3) (oPu (oFrz (oLen (oVar 0)))))) (oTst (oBin (fIn false) (oPu (oFrz (oBin fIx (oVar 0) (oVar 3)))) (oPu (oC (.str "abcdefghijklmnopqrstuvwxyzABCDEFGHIJKLMNOPQRSTUVWXYZ0123456789")))))) = innerC from rfl, h1]
  simp [ap_var]
end K01
namespace K01
open PySem Ow
/-! words between blanks -/
def nb (c : Nat) : Bool := decide (c ≠ 32)
def wordsL : List Nat → List (List Nat)
  | [] => []
  | c :: r => if c = 32 then wordsL r else (c :: r.takeWhile nb) :: wordsL (r.dropWhile nb)
termination_by l => l.length
decreasing_by
  · exact Nat.lt_succ_self _
  · exact Nat.lt_succ_of_le (List.dropWhile_sublist _).length_le
theorem wordsL_nil : wordsL [] = [] := by rw [wordsL]
theorem wordsL_b (r : List Nat) : wordsL (32 :: r) = wordsL r := by rw [wordsL, if_pos rfl]
theorem wordsL_c {c : Nat} (r : List Nat) (h : c ≠ 32) : wordsL (c :: r) = (c :: r.takeWhile nb) :: wordsL (r.dropWhile nb) := by rw [wordsL, if_neg h]
def partL (c : Nat) : List Nat := if run c = true then [c] else if c = 32 ∨ c = 10 then [32] else [32, c, 32]
theorem run_32 : run 32 = false := by decide +kernel
theorem run_ne {c : Nat} (h : run c = true) : c ≠ 32 := fun e => by subst e; rw [run_32] at h; cases h
theorem nb_run {c : Nat} (h : run c = true) : nb c = true := decide_eq_true (run_ne h)
theorem part_takes : ∀ r : List Nat, (r.flatMap partL).takeWhile nb = r.takeWhile run ∧ (r.flatMap partL).dropWhile nb = (r.dropWhile run).flatMap partL
  | [] => ⟨rfl, rfl⟩
  | c :: r => by
    cases h : run c with
    | true =>
      obtain ⟨h1, h2⟩ := part_takes r
      have e : (c :: r).flatMap partL = c :: r.flatMap partL := by
        rw [List.flatMap_cons]
        unfold partL
        rw [if_pos h]
        rfl
      rw [e, List.takeWhile_cons_of_pos (nb_run h), List.dropWhile_cons_of_pos (nb_run h), List.takeWhile_cons_of_pos h, List.dropWhile_cons_of_pos h, h1, h2]
      exact ⟨rfl, rfl⟩
    | false =>
      have e : ∃ t, (c :: r).flatMap partL = 32 :: t := by
        rw [List.flatMap_cons]
        unfold partL
        rw [if_neg (by rw [h]; decide)]
        split
        · exact ⟨_, rfl⟩
        · exact ⟨_, rfl⟩
      obtain ⟨t, e⟩ := e
      have hf : ¬ run c = true := by rw [h]; decide
      have hf2 : ¬ nb 32 = true := by decide
      rw [List.takeWhile_cons_of_neg hf, List.dropWhile_cons_of_neg hf, e, List.takeWhile_cons_of_neg hf2, List.dropWhile_cons_of_neg hf2]
      exact ⟨rfl, rfl⟩
theorem words_toks : ∀ (n : Nat) (l : List Nat), l.length ≤ n → wordsL (l.flatMap partL) = toks l
  | _, [], _ => by rw [List.flatMap_nil, wordsL_nil, toks]
  | n + 1, c :: r, hl => by
    have hr : r.length ≤ n := Nat.le_of_succ_le_succ hl
    cases h : run c with
    | true =>
      obtain ⟨h1, h2⟩ := part_takes r
      have e : (c :: r).flatMap partL = c :: r.flatMap partL := by
        rw [List.flatMap_cons]
        unfold partL
        rw [if_pos h]
        rfl
      rw [e, wordsL_c _ (run_ne h), h1, h2, toks_run h, words_toks n (r.dropWhile run) (Nat.le_trans (List.dropWhile_sublist _).length_le hr)]
    | false =>
      by_cases hb : c = 32 ∨ c = 10
      · have e : (c :: r).flatMap partL = 32 :: r.flatMap partL := by
          rw [List.flatMap_cons]
          unfold partL
          rw [if_neg (by rw [h]; decide), if_pos hb]
          rfl
        rw [e, wordsL_b, toks_blank h hb, words_toks n r hr]
      · have e : (c :: r).flatMap partL = 32 :: c :: 32 :: r.flatMap partL := by
          rw [List.flatMap_cons]
          unfold partL
          rw [if_neg (by rw [h]; decide), if_neg hb]
          rfl
        have hf2 : ¬ nb 32 = true := by decide
        rw [e, wordsL_b, wordsL_c _ (fun q => hb (.inl q)), List.takeWhile_cons_of_neg hf2, List.dropWhile_cons_of_neg hf2, wordsL_b, toks_sign h hb, words_toks n r hr]
theorem words_join : ∀ ps : List Str, (∀ p ∈ ps, 32 ∉ p.cps.toList) → wordsL (Str.join ⟨#[32]⟩ ps).cps.toList = (ps.filter fun p => !decide (p = ⟨#[]⟩)).map fun p => p.cps.toList
  | [], _ => by
    show wordsL [] = _
    rw [wordsL_nil]
    rfl
  | p :: ps, h => by
    have hp := h p List.mem_cons_self
    have ih := words_join ps fun q hq => h q (List.mem_cons_of_mem _ hq)
    have all : ∀ l : List Nat, 32 ∉ l → ∀ c ∈ l, nb c = true := fun l hl c hc => decide_eq_true fun e => hl (e ▸ hc)
    have key : ∀ t : List Nat, t = [] ∨ (∃ u, t = 32 :: u) → wordsL (p.cps.toList ++ t) = (if p = ⟨#[]⟩ then [] else [p.cps.toList]) ++ wordsL t := fun t ht => by
      obtain ⟨⟨l⟩⟩ := p
      have hp : 32 ∉ l := hp
      show wordsL (l ++ t) = _
      cases l with
      | nil => rw [if_pos rfl]; rfl
      | cons c r =>
        have hc : c ≠ 32 := fun e => hp (e ▸ List.mem_cons_self)
        have hr : ∀ x ∈ r, nb x = true := all r fun q => hp (List.mem_cons_of_mem _ q)
        have e1 : (r ++ t).takeWhile nb = r ∧ (r ++ t).dropWhile nb = t := by
          rw [List.takeWhile_append_of_pos hr, List.dropWhile_append_of_pos hr]
          rcases ht with rfl | ⟨u, rfl⟩
          · simp
          · rw [List.takeWhile_cons_of_neg (by decide), List.dropWhile_cons_of_neg (by decide)]
            simp
        rw [List.cons_append, wordsL_c _ hc, e1.1, e1.2, if_neg (by intro q; cases q)]
        rfl
    cases ps with
    | nil =>
      have k := key [] (.inl rfl)
      rw [List.append_nil, wordsL_nil, List.append_nil] at k
      show wordsL p.cps.toList = _
      rw [k]
      by_cases hq : p = ⟨#[]⟩
      · subst hq; rfl
      · rw [if_neg hq, List.filter_cons_of_pos (by simp [hq])]; rfl
    | cons q qs =>
      have e : (Str.join ⟨#[32]⟩ (p :: q :: qs)).cps.toList = p.cps.toList ++ (32 :: (Str.join ⟨#[32]⟩ (q :: qs)).cps.toList) := by
        show ((p ++ ⟨#[32]⟩) ++ Str.join ⟨#[32]⟩ (q :: qs)).cps.toList = _
        rw [Str.cps_append, Str.cps_append, Array.toList_append, Array.toList_append, List.append_assoc]
        rfl
      rw [e, key _ (.inr ⟨_, rfl⟩), wordsL_b, ih]
      by_cases hq : p = ⟨#[]⟩
      · rw [if_pos hq, List.filter_cons_of_neg (a := p) (by simp [hq])]; rfl
      · rw [if_neg hq, List.filter_cons_of_pos (a := p) (by simp [hq])]; rfl
theorem split_words (l : List Nat) : ((Txt.split (tk l) ⟨#[32]⟩).filter fun p => !decide (p = ⟨#[]⟩)).map (fun p => p.cps.toList) = wordsL l := by
  rw [← words_join _ (fun p hp => StrLaws.split_free (tk l) 32 p hp), StrLaws.join_split]
  rfl
theorem signs_tk (l : List Nat) : signs (tk l) = l.map fun c => .str ⟨#[c]⟩ := rfl
theorem pl_len (c : Nat) : (partL c).length ≤ 3 := by
  unfold partL
  split
  · simp
  · split <;> simp
theorem pl_sum : ∀ l : List Nat, ((l.map fun c => tk (partL c)).map (·.length)).sum ≤ 3 * l.length
  | [] => by simp
  | c :: l => by
    have h := pl_sum l
    have h2 := pl_len c
    simp only [List.map_cons, List.sum_cons, List.length_cons, tk_len] at h ⊢
    omega
theorem jn_tk (l : List Nat) : Txt.join (Str.ofString "") (l.map fun c => tk (partL c)) = tk (l.flatMap partL) := by
  have h : (Txt.join (Str.ofString "") (l.map fun c => tk (partL c))).cps.toList = l.flatMap partL := by
    rw [join_list, List.map_map]
    rw [List.flatMap_def]
    rfl
  rw [← h, tk_of]
theorem parted_eq {l : List Nat} (ha : AL l) (hl : l.length ≤ 100000) : ∃ o, g__law_parted [.pu (.str (tk l))] = .ret (.pu (.tuple ((toks l).map wrd))) o := by
  have s1 : Str.ofString " " = ⟨#[32]⟩ := by decide +kernel
  have s0 : Str.ofString "" = ⟨#[]⟩ := by decide +kernel
  have sr : (Str.ofString "abcdefghijklmnopqrstuvwxyz" ++ Str.ofString "ABCDEFGHIJKLMNOPQRSTUVWXYZ") ++ Str.ofString "0123456789" = RUNs := by decide +kernel
  have zr : (Str.ofString "abcdefghijklmnopqrstuvwxyz").length + (Str.ofString "ABCDEFGHIJKLMNOPQRSTUVWXYZ").length ≤ 16000000 := by decide +kernel
  have zr2 : (Str.ofString "abcdefghijklmnopqrstuvwxyz" ++ Str.ofString "ABCDEFGHIJKLMNOPQRSTUVWXYZ").length + (Str.ofString "0123456789").length ≤ 16000000 := by decide +kernel
  have zb : ∀ c : Nat, c ∈ (Str.ofString " \n").cps ↔ c = 32 ∨ c = 10 := fun c => by
    have : (Str.ofString " \n").cps = #[32, 10] := by decide +kernel
    rw [this]
    simp
  have z3 : ∀ c : Nat, (⟨#[32]⟩ : Str).length + (⟨#[c]⟩ : Str).length ≤ 16000000 := fun c => by rw [len_one, len_one]; decide
  have z4 : ∀ c : Nat, ((⟨#[32]⟩ : Str) ++ (⟨#[c]⟩ : Str)).length + (⟨#[32]⟩ : Str).length ≤ 16000000 := fun c => by rw [Str.length_append, len_one, len_one]; decide
  have h1 : lcL [3] (gNm 3) oYes (oFrz (oIf (oTst (oBin (fIn false) (oVar 3) (oVar 1))) (oRes (oKeep (oVar 3))) (oIf (oTst (oBin (fIn false) (oVar 3) (oPu (oC (.str " \n"))))) (oRes (oC (.str " "))) (oBin fAdd (oPu (oFrz (oBin fAdd (oPu (oC (.str " "))) (oVar 3)))) (oPu (oC (.str " "))))))) (signs (tk l)) [.pu (.str (tk l)), .pu (.str RUNs), .no, .no, .no] =
      .ok (l.map fun c => .str (tk (partL c))) [.pu (.str (tk l)), .pu (.str RUNs), .no, .no, .no] := by
    rw [signs_tk]
    refine lcL_map fun c hc => ⟨[.pu (.str (tk l)), .pu (.str RUNs), .no, .pu (.str ⟨#[c]⟩), .no], [.pu (.str (tk l)), .pu (.str RUNs), .no, .pu (.str ⟨#[c]⟩), .no], by simp [setSl_ok], ?_, rfl⟩
    cases hr : run c with
    | true =>
      have hr' : c ∈ RUNs.cps := run_t hr
      have hp : tk (partL c) = ⟨#[c]⟩ := by unfold partL; rw [if_pos hr]; rfl
      simp [ap_var, s1, inT_one, hr', hp]
    | false =>
      have hr' : ¬ c ∈ RUNs.cps := run_f hr
      by_cases hb : c = 32 ∨ c = 10
      · have hp : tk (partL c) = ⟨#[32]⟩ := by unfold partL; rw [if_neg (by rw [hr]; decide), if_pos hb]; rfl
        have hb' := (zb c).mpr hb
        simp [ap_var, s1, inT_one, hr', hp, hb']
      · have hp : tk (partL c) = (⟨#[32]⟩ ++ ⟨#[c]⟩) ++ ⟨#[32]⟩ := by unfold partL; rw [if_neg (by rw [hr]; decide), if_neg hb]; rfl
        have hb' : ¬ c ∈ (Str.ofString " \n").cps := fun q => hb ((zb c).mp q)
        simp [ap_var, s1, inT_one, hr', hp, hb', z3, z4]
  have hsp : ∀ p ∈ Txt.split (tk (l.flatMap partL)) ⟨#[32]⟩, ASC p := by
    intro p hp c hc
    have hx : p.cps.toList.length = p.cps.toList.length := rfl
    have hj := StrLaws.join_split (tk (l.flatMap partL)) ⟨#[32]⟩
    have mem : ∀ ps : List Str, p ∈ ps → c ∈ (Str.join ⟨#[32]⟩ ps).cps.toList := by
      intro ps
      induction ps with
      | nil => intro h; cases h
      | cons a as ih =>
        intro h
        cases as with
        | nil =>
          rcases List.mem_cons.mp h with rfl | h
          · exact hc
          · cases h
        | cons b bs =>
          have e : (Str.join ⟨#[32]⟩ (a :: b :: bs)).cps.toList = a.cps.toList ++ (32 :: (Str.join ⟨#[32]⟩ (b :: bs)).cps.toList) := by
            show ((a ++ ⟨#[32]⟩) ++ Str.join ⟨#[32]⟩ (b :: bs)).cps.toList = _
            rw [Str.cps_append, Str.cps_append, Array.toList_append, Array.toList_append, List.append_assoc]
            rfl
          rw [e, List.mem_append, List.mem_cons]
          rcases List.mem_cons.mp h with rfl | h
          · exact .inl hc
          · exact .inr (.inr (ih h))
    have h2 := mem _ hp
    rw [hj] at h2
    have h3 : c ∈ l.flatMap partL := h2
    obtain ⟨x, hx, hcx⟩ := List.mem_flatMap.mp h3
    have := ha x hx
    unfold partL at hcx
    split at hcx
    · have : c = x := by simpa using hcx
      omega
    · split at hcx
      · have : c = 32 := by simpa using hcx
        omega
      · have : c = 32 ∨ c = x ∨ c = 32 := by simpa using hcx
        omega
  have h2 : lcL [4] (gNm 4) (oTst (oBin fNe (oVar 4) (oPu (oC (.str ""))))) (oKeep (oVar 4)) ((Txt.split (tk (l.flatMap partL)) ⟨#[32]⟩).map PyData.str) [.pu (.str (tk l)), .pu (.str RUNs), .ow false (.li (l.map fun c => .str (tk (partL c)))), .no, .no] =
      .ok ((toks l).map wrd) [.pu (.str (tk l)), .pu (.str RUNs), .ow false (.li (l.map fun c => .str (tk (partL c)))), .no, .no] := by
    have e : (toks l).map wrd = ((Txt.split (tk (l.flatMap partL)) ⟨#[32]⟩).filter fun p => !decide (p = ⟨#[]⟩)).map PyData.str := by
      rw [← words_toks _ l (Nat.le_refl _), ← split_words, List.map_map]
      refine List.map_congr_left fun p _ => ?_
      show PyData.str (tk p.cps.toList) = _
      rw [tk_of]
    rw [e]
    refine lcL_filter fun p hp => ⟨[.pu (.str (tk l)), .pu (.str RUNs), .ow false (.li (l.map fun c => .str (tk (partL c)))), .no, .pu (.str p)], [.pu (.str (tk l)), .pu (.str RUNs), .ow false (.li (l.map fun c => .str (tk (partL c)))), .no, .pu (.str p)], by simp [setSl_ok], ?_, fun _ => ⟨[.pu (.str (tk l)), .pu (.str RUNs), .ow false (.li (l.map fun c => .str (tk (partL c)))), .no, .pu (.str p)], by simp [ap_var], rfl⟩, fun _ => rfl⟩
    have n1 := neStr p ⟨#[]⟩ (hsp p hp) (fun c hc => by cases hc)
    simp [ap_var, s0, n1]
  have hsl : (Txt.split (tk (l.flatMap partL)) ⟨#[32]⟩).length ≤ 16000000 := by
    have := PyProof.Rows.split_le (tk (l.flatMap partL)) ⟨#[32]⟩
    have h3 : (tk (l.flatMap partL)).length ≤ 3 * l.length := by
      rw [← jn_tk, len_list, join_list, List.length_flatten, List.map_map]
      exact pl_sum l
    omega
  have hsum := pl_sum l
  have hlen : ((l.map fun c => tk (partL c)).map (·.length)).sum + (l.map fun c => tk (partL c)).length * (Str.ofString "").length ≤ 16000000 := by
    have : (Str.ofString "").length = 0 := by decide +kernel
    rw [this]
    omega
  have hjl : (tk (l.flatMap partL)).length + 2 ≤ 16000000 := by
    have h3 : (tk (l.flatMap partL)).length ≤ 3 * l.length := by
      rw [← jn_tk, len_list, join_list, List.length_flatten, List.map_map]
      exact pl_sum l
    omega
  have hss : (signs (tk l)).length ≤ 16000000 := by rw [signs_tk, List.length_map]; omega
  have hj := f_join (Str.ofString "") (l.map fun c => tk (partL c))
  rw [if_pos hlen, jn_tk, List.map_map] at hj
  have hj' : fJoin (.str (Str.ofString "")) [.list (l.map fun c => .str (tk (partL c)))] = some (.pu (.str (tk (l.flatMap partL)))) := hj
  have l1 : ((Str.ofString " ").length == 0) = false := by rw [s1]; rfl
  rw [← s1] at h2 hsl
  refine ⟨[.pu (.str (tk l))], ?_⟩
  simp [g__law_parted, fnOf_eq, b__law_parted, ap_var, setSl_ok, sr, zr, zr2, lc1_eq, okW, loose, wipeR, restR, lcE, hss, h1, h2, hj', l1, hjl, hsl]
end K01
namespace K01
open PySem Ow
def RESD : List D := [.str "module", .str "in", .str "out", .str "wire", .str "reg", .str "then", .str "mem", .str "when", .str "at", .str "put", .str "machine", .str "to", .str "slot", .str "take", .str "use", .str "chain", .str "from", .str "word", .str "part", .str "read", .str "is", .str "plus", .str "times", .str "not", .str "any", .str "and", .str "or", .str "xor", .str "add", .str "sub", .str "eq", .str "lt", .str "join", .str "pick"]
theorem resD_k : d_RESERVED = .dict [(.bool true, .tuple RESD)] := rfl
def RESL : List Str := RESD.filterMap fun d => match d with | .str s => some s | _ => none
theorem resl_eq : RESL.map PyData.str = RESD := rfl
theorem res_split : Txt.split ((Str.ofString "module in out wire reg then mem when at put machine to slot take use chain from word part read is plus ") ++ (Str.ofString "times not any and or xor add sub eq lt join pick")) (Str.ofString " ") = RESL := by decide +kernel
theorem reserved_ok : g__law_reserved [] = .ret (.nw (.li RESD)) [] := by
  have z1 : (Str.ofString "module in out wire reg then mem when at put machine to slot take use chain from word part read is plus ").length + (Str.ofString "times not any and or xor add sub eq lt join pick").length ≤ 16000000 := by decide +kernel
  have z2 : ((Str.ofString "module in out wire reg then mem when at put machine to slot take use chain from word part read is plus ") ++ (Str.ofString "times not any and or xor add sub eq lt join pick")).length + 2 ≤ 16000000 := by decide +kernel
  have z3 : ((Str.ofString " ").length == 0) = false := by decide +kernel
  simp [g__law_reserved, fnOf_eq, b__law_reserved, ap_var, setSl_ok, z1, z2, z3, res_split, resl_eq]
theorem res_flat : RESD.all flatD = true := by decide +kernel
theorem res_res : Res RESD := by
  refine ⟨by decide, by decide, fun x hx => ?_⟩
  have h : RESD.all (fun d => match d with | .str s => (decide (s.length ≤ 8) && s.cps.toList.all (fun c => decide (c < 128))) | _ => false) = true := by decide +kernel
  have h2 := List.all_eq_true.mp h x hx
  cases x with
  | str s => exact sk_lit h2
  | _ => cases h2
def small (c : Nat) : Bool := decide (c ∈ (Str.ofString "abcdefghijklmnopqrstuvwxyz").cps)
def digit (c : Nat) : Bool := decide (c ∈ (Str.ofString "0123456789").cps)
def nameV (l : List Nat) : Bool := decide (1 ≤ l.length ∧ l.length ≤ 8) && ((match l with | c :: _ => small c | [] => false) && (!inD (wrd l) RESD && l.all fun c => small c || digit c))
theorem asgn (c : Nat) (l : List Nat) : (tk (c :: l)).cps[0]? = some c := rfl
theorem name1 {l : List Nat} (hl : l.length ≤ 100000) : ∃ o, g_fits_name [.pu (wrd l)] = .ret (.pu (.bool (nameV l))) o := by
  have hz : (tk l).length ≤ 16000000 := by rw [tk_len]; omega
  have hz2 : l.length ≤ 16000000 := by omega
  have h1 : lcL [1] (gNm 1) oYes (oOrV (oFrz (oBin (fIn false) (oVar 1) (oPu (oC (.str "abcdefghijklmnopqrstuvwxyz"))))) (oFrz (oBin (fIn false) (oVar 1) (oPu (oC (.str "0123456789")))))) (signs (tk l)) [.pu (.str (tk l)), .no] = .ok ((l.map fun c => small c || digit c).map PyData.bool) [.pu (.str (tk l)), .no] := by
    rw [signs_tk, List.map_map]
    refine lcL_map fun c hc => ⟨[.pu (.str (tk l)), .pu (.str ⟨#[c]⟩)], [.pu (.str (tk l)), .pu (.str ⟨#[c]⟩)], by simp [setSl_ok], ?_, rfl⟩
    by_cases hs : c ∈ (Str.ofString "abcdefghijklmnopqrstuvwxyz").cps <;> by_cases hd : c ∈ (Str.ofString "0123456789").cps <;> simp [ap_var, inT_one, hs, hd, small, digit]
  have hss : (signs (tk l)).length ≤ 16000000 := by rw [signs_tk, List.length_map]; exact hz2
  refine ⟨[.pu (wrd l)], ?_⟩
  by_cases hlen : 1 ≤ l.length ∧ l.length ≤ 8
  · have i1 : (1 : Int) ≤ ((tk l).length : Nat) := by rw [tk_len]; omega
    have i2 : (((tk l).length : Nat) : Int) ≤ 8 := by rw [tk_len]; omega
    cases l with
    | nil => simp at hlen
    | cons c r =>
      by_cases hs : c ∈ (Str.ofString "abcdefghijklmnopqrstuvwxyz").cps
      · cases hi : inD (.str (tk (c :: r))) RESD with
        | true => simp [g_fits_name, fnOf_eq, b_fits_name, ap_var, wrd, hz, i1, i2, atI_nn, asgn, inT_one, hs, resD_k, flatD, res_flat, hi, nameV]
        | false =>
          have hna : nameV (c :: r) = ((c :: r).map fun c => small c || digit c).all id := by
            unfold nameV
            rw [decide_eq_true hlen]
            simp [small, hs, wrd, hi, List.all_map, Function.comp_def]
          rw [hna]
          have hfa := f_all ((c :: r).map fun c => small c || digit c)
          simp [-List.map_cons, -List.all_cons, -List.all_map, -List.map_map, g_fits_name, fnOf_eq, b_fits_name, ap_var, wrd, hz, i1, i2, atI_nn, asgn, inT_one, hs, resD_k, flatD, res_flat, hi, lc1_eq, okW, loose, hss, wipeR, restR, lcE, h1, hfa]
      · simp [g_fits_name, fnOf_eq, b_fits_name, ap_var, wrd, hz, i1, i2, atI_nn, asgn, inT_one, hs, nameV, small]
  · have hnf : nameV l = false := by unfold nameV; rw [decide_eq_false hlen]; rfl
    rw [hnf]
    by_cases i1 : (1 : Int) ≤ ((tk l).length : Nat)
    · have i2 : ¬ (((tk l).length : Nat) : Int) ≤ 8 := by rw [tk_len] at i1 ⊢; omega
      simp [g_fits_name, fnOf_eq, b_fits_name, ap_var, wrd, hz, i1, i2]
    · simp [g_fits_name, fnOf_eq, b_fits_name, ap_var, wrd, hz, i1]
theorem name2 {l : List Nat} (hl : l.length ≤ 100000) : ∃ o, g__law_is_name [.pu (wrd l), .pu (.list RESD)] = .ret (.pu (.bool (nameV l))) o := by
  have hz : (tk l).length ≤ 16000000 := by rw [tk_len]; omega
  have hz2 : l.length ≤ 16000000 := by omega
  have zl : (Str.ofString "abcdefghijklmnopqrstuvwxyz").length + (Str.ofString "0123456789").length ≤ 16000000 := by decide +kernel
  have h1 : lcL [2] (gNm 2) oYes (oFrz (oBin (fIn false) (oVar 2) (oPu (oFrz (oBin fAdd (oPu (oFrz (oCall g__law_letters oNil))) (oPu (oC (.str "0123456789")))))))) (signs (tk l)) [.pu (.str (tk l)), .pu (.list RESD), .no] = .ok ((l.map fun c => small c || digit c).map PyData.bool) [.pu (.str (tk l)), .pu (.list RESD), .no] := by
    rw [signs_tk, List.map_map]
    refine lcL_map fun c hc => ⟨[.pu (.str (tk l)), .pu (.list RESD), .pu (.str ⟨#[c]⟩)], [.pu (.str (tk l)), .pu (.list RESD), .pu (.str ⟨#[c]⟩)], by simp [setSl_ok], ?_, rfl⟩
    by_cases hs : c ∈ (Str.ofString "abcdefghijklmnopqrstuvwxyz").cps <;> by_cases hd : c ∈ (Str.ofString "0123456789").cps <;> simp [ap_var, inT_one, hs, hd, small, digit, zl, Str.cps_append]
  have hss : (signs (tk l)).length ≤ 16000000 := by rw [signs_tk, List.length_map]; exact hz2
  refine ⟨[.pu (wrd l), .pu (.list RESD)], ?_⟩
  by_cases hlen : 1 ≤ l.length ∧ l.length ≤ 8
  · have i1 : (1 : Int) ≤ ((tk l).length : Nat) := by rw [tk_len]; omega
    have i2 : (((tk l).length : Nat) : Int) ≤ 8 := by rw [tk_len]; omega
    cases l with
    | nil => simp at hlen
    | cons c r =>
      cases hi : inD (.str (tk (c :: r))) RESD with
      | true => simp [g__law_is_name, fnOf_eq, b__law_is_name, ap_var, wrd, hz, i1, i2, atI_nn, asgn, inT_one, flatD, res_flat, hi, nameV, bin1_eq]
      | false =>
        by_cases hs : c ∈ (Str.ofString "abcdefghijklmnopqrstuvwxyz").cps
        · have hna : nameV (c :: r) = ((c :: r).map fun c => small c || digit c).all id := by
            unfold nameV
            rw [decide_eq_true hlen]
            simp [small, hs, wrd, hi, List.all_map, Function.comp_def]
          rw [hna]
          have hfa := f_all ((c :: r).map fun c => small c || digit c)
          simp [-List.map_cons, -List.all_cons, -List.all_map, -List.map_map, g__law_is_name, fnOf_eq, b__law_is_name, ap_var, wrd, hz, i1, i2, atI_nn, asgn, inT_one, hs, flatD, res_flat, hi, lc1_eq, okW, loose, hss, wipeR, restR, lcE, h1, hfa, bin1_eq]
        · simp [g__law_is_name, fnOf_eq, b__law_is_name, ap_var, wrd, hz, i1, i2, atI_nn, asgn, inT_one, hs, nameV, small, flatD, res_flat, hi, bin1_eq]
  · have hnf : nameV l = false := by unfold nameV; rw [decide_eq_false hlen]; rfl
    rw [hnf]
    by_cases i1 : (1 : Int) ≤ ((tk l).length : Nat)
    · have i2 : ¬ (((tk l).length : Nat) : Int) ≤ 8 := by rw [tk_len] at i1 ⊢; omega
      simp [g__law_is_name, fnOf_eq, b__law_is_name, ap_var, wrd, hz, i1, i2]
    · simp [g__law_is_name, fnOf_eq, b__law_is_name, ap_var, wrd, hz, i1]
/-! numbers -/
def num0 (l : List Nat) (n : Int) : Bool := if (match l with | c :: _ => decide (c = 48) | [] => false) = true ∧ 1 < l.length then false else decide (n ≤ 255)
def numV (l : List Nat) : Bool := decide (1 ≤ l.length ∧ l.length ≤ 3) && (l.all digit && (match PySem.intText? (tk l) with | some n => num0 l n | none => false))
def okN (l : List Nat) : Bool := match PySem.intText? (tk l) with
  | some n => if num0 l n = true then decide (0 ≤ n ∧ n < 256) && decide (Str.ofString (toString n) = tk l) else true
  | none => false
def dgs : List Nat := [48, 49, 50, 51, 52, 53, 54, 55, 56, 57]
theorem dg_mem {c : Nat} (h : digit c = true) : c ∈ dgs := by
  have e : (Str.ofString "0123456789").cps = #[48, 49, 50, 51, 52, 53, 54, 55, 56, 57] := by decide +kernel
  unfold digit at h
  rw [e] at h
  have h2 := of_decide_eq_true h
  unfold dgs
  simpa using h2
theorem ok1 : (dgs.all fun a => okN [a]) = true := by decide +kernel
theorem ok2 : (dgs.all fun a => dgs.all fun b => okN [a, b]) = true := by decide +kernel
theorem ok3 : (dgs.all fun a => dgs.all fun b => dgs.all fun c => okN [a, b, c]) = true := by decide +kernel
theorem okN_of {l : List Nat} (h1 : 1 ≤ l.length ∧ l.length ≤ 3) (h2 : l.all digit = true) : okN l = true := by
  match l, h1, h2 with
  | [a], _, h2 =>
    simp only [List.all_cons, List.all_nil, Bool.and_true] at h2
    exact List.all_eq_true.mp ok1 a (dg_mem h2)
  | [a, b], _, h2 =>
    simp only [List.all_cons, List.all_nil, Bool.and_true, Bool.and_eq_true] at h2
    exact List.all_eq_true.mp (List.all_eq_true.mp ok2 a (dg_mem h2.1)) b (dg_mem h2.2)
  | [a, b, c], _, h2 =>
    simp only [List.all_cons, List.all_nil, Bool.and_true, Bool.and_eq_true] at h2
    exact List.all_eq_true.mp (List.all_eq_true.mp (List.all_eq_true.mp ok3 a (dg_mem h2.1)) b (dg_mem h2.2.1)) c (dg_mem h2.2.2)
  | [], h, _ => simp at h
  | _ :: _ :: _ :: _ :: _, h, _ => simp at h
def strI (k : Nat) : Str := Str.ofString (toString (k : Int))
theorem okB : ((List.range 256).all fun k => numV (strI k).cps.toList) = true := by decide +kernel
theorem num_iff (l : List Nat) : numV l = true ↔ tk l ∈ (List.range 256).map strI := by
  constructor
  · intro h
    unfold numV at h
    rw [Bool.and_eq_true, Bool.and_eq_true] at h
    obtain ⟨h1, h2, h3⟩ := h
    have h4 := okN_of (of_decide_eq_true h1) h2
    unfold okN at h4
    cases hq : PySem.intText? (tk l) with
    | none => rw [hq] at h3; cases h3
    | some n =>
      rw [hq] at h3 h4
      dsimp only at h3 h4
      rw [if_pos h3, Bool.and_eq_true] at h4
      obtain ⟨h5, h6⟩ := h4
      have h5 := of_decide_eq_true h5
      have h6 := of_decide_eq_true h6
      refine List.mem_map.mpr ⟨n.toNat, List.mem_range.mpr (by omega), ?_⟩
      unfold strI
      rw [Int.toNat_of_nonneg h5.1]
      exact h6
  · intro h
    obtain ⟨k, hk, e⟩ := List.mem_map.mp h
    have := List.all_eq_true.mp okB k hk
    rw [e] at this
    exact this
end K01
namespace K01
open PySem Ow
theorem eqStr (a b : Str) (ha : ASC a) (hb : ASC b) : fEq (.str a) (.str b) = some (.pu (.bool (decide (a = b)))) := by
  have h := neStr a b ha hb
  unfold fNe at h
  unfold fEq
  split at h
  · rename_i q
    rw [if_pos q]
    rfl
  · cases h
theorem num1 {l : List Nat} (ha : AL l) (hl : l.length ≤ 100000) : ∃ o, g_fits_number [.pu (wrd l)] = .ret (.pu (.bool (numV l))) o := by
  have hz : (tk l).length ≤ 16000000 := by rw [tk_len]; omega
  have hz2 : l.length ≤ 16000000 := by omega
  have h1 : lcL [1] (gNm 1) oYes (oFrz (oBin (fIn false) (oVar 1) (oPu (oC (.str "0123456789"))))) (signs (tk l)) [.pu (.str (tk l)), .no] = .ok ((l.map digit).map PyData.bool) [.pu (.str (tk l)), .no] := by
    rw [signs_tk, List.map_map]
    refine lcL_map fun c hc => ⟨[.pu (.str (tk l)), .pu (.str ⟨#[c]⟩)], [.pu (.str (tk l)), .pu (.str ⟨#[c]⟩)], by simp [setSl_ok], ?_, rfl⟩
    by_cases hd : c ∈ (Str.ofString "0123456789").cps <;> simp [ap_var, inT_one, hd, digit]
  have hss : (signs (tk l)).length ≤ 16000000 := by rw [signs_tk, List.length_map]; exact hz2
  have hfa := f_all (l.map digit)
  have hall : (l.map digit).all id = l.all digit := by rw [List.all_map]; rfl
  rw [hall] at hfa
  refine ⟨[.pu (wrd l)], ?_⟩
  by_cases hlen : 1 ≤ l.length ∧ l.length ≤ 3
  · have i1 : (1 : Int) ≤ ((tk l).length : Nat) := by rw [tk_len]; omega
    have i2 : (((tk l).length : Nat) : Int) ≤ 3 := by rw [tk_len]; omega
    cases hd : l.all digit with
    | false =>
      have hn : numV l = false := by unfold numV; rw [hd]; simp
      rw [hd] at hfa
      rw [hn]
      simp [-List.map_cons, -List.all_cons, -List.all_map, -List.map_map, g_fits_number, fnOf_eq, b_fits_number, ap_var, wrd, hz, i1, i2, lc1_eq, okW, loose, hss, wipeR, restR, lcE, h1, hfa]
    | true =>
      rw [hd] at hfa
      have hok := okN_of hlen hd
      cases l with
      | nil => simp at hlen
      | cons c r =>
        have hcm : c < 128 := ha c List.mem_cons_self
        have s0 : Str.ofString "0" = ⟨#[48]⟩ := by decide +kernel
        have n1 := eqStr ⟨#[c]⟩ (Str.ofString "0") (asc_c hcm) (asc_lit (by decide +kernel))
        rw [s0] at n1
        have hlt : (tk (c :: r)).length ≤ 640 := by rw [tk_len]; omega
        unfold okN at hok
        cases hq : PySem.intText? (tk (c :: r)) with
        | none => rw [hq] at hok; cases hok
        | some n =>
          have hn : numV (c :: r) = num0 (c :: r) n := by
            unfold numV
            rw [decide_eq_true hlen, hd, hq]
            rfl
          rw [hn]
          by_cases hc : c = 48
          · by_cases hg : (1 : Int) < ((tk (c :: r)).length : Nat)
            · have hg2 : 1 < (c :: r).length := by rw [tk_len] at hg; omega
              have hv : num0 (c :: r) n = false := by unfold num0; rw [if_pos ⟨decide_eq_true hc, hg2⟩]
              rw [hv]
              subst hc
              simp [-List.map_cons, -List.all_cons, -List.all_map, -List.map_map, g_fits_number, fnOf_eq, b_fits_number, ap_var, wrd, hz, i1, i2, lc1_eq, okW, loose, hss, wipeR, restR, lcE, h1, hfa, atI_nn, asgn, s0, n1, hg]
            · have hg2 : ¬ 1 < (c :: r).length := by rw [tk_len] at hg; omega
              have hv : num0 (c :: r) n = decide (n ≤ 255) := by unfold num0; rw [if_neg (fun q => hg2 q.2)]
              rw [hv]
              subst hc
              simp [-List.map_cons, -List.all_cons, -List.all_map, -List.map_map, g_fits_number, fnOf_eq, b_fits_number, ap_var, wrd, hz, i1, i2, lc1_eq, okW, loose, hss, wipeR, restR, lcE, h1, hfa, atI_nn, asgn, s0, n1, hg, hlt, hq]
          · have hv : num0 (c :: r) n = decide (n ≤ 255) := by unfold num0; rw [if_neg (fun q => hc (of_decide_eq_true q.1))]
            rw [hv]
            have hc' : ¬ (⟨#[c]⟩ : Str) = ⟨#[48]⟩ := fun q => hc (by simpa using q)
            simp [-List.map_cons, -List.all_cons, -List.all_map, -List.map_map, g_fits_number, fnOf_eq, b_fits_number, ap_var, wrd, hz, i1, i2, lc1_eq, okW, loose, hss, wipeR, restR, lcE, h1, hfa, atI_nn, asgn, s0, n1, hc, hlt, hq]
  · have hnf : numV l = false := by unfold numV; rw [decide_eq_false hlen]; rfl
    rw [hnf]
    by_cases i1 : (1 : Int) ≤ ((tk l).length : Nat)
    · have i2 : ¬ (((tk l).length : Nat) : Int) ≤ 3 := by rw [tk_len] at i1 ⊢; omega
      simp [g_fits_number, fnOf_eq, b_fits_number, ap_var, wrd, hz, i1, i2]
    · simp [g_fits_number, fnOf_eq, b_fits_number, ap_var, wrd, hz, i1]
/-! the law -/
theorem shapedB (b : Bool) : SeqAt.shaped (.bool b) = true := rfl
theorem neBool (a b : Bool) : fNe (.bool a) (.bool b) = some (.pu (.bool (!decide (a = b)))) := by
  unfold fNe
  rw [if_pos ⟨shapedB a, shapedB b⟩]
  cases a <;> cases b <;> rfl
theorem isiB (b : Bool) : L2.kitB "bool" "bool" = some true := by decide +kernel
theorem neTup {xs : List (List Nat)} (h : ∀ l ∈ xs, AL l) : fNe (.tuple (xs.map wrd)) (.tuple (xs.map wrd)) = some (.pu (.bool false)) := by
  have hc : PyData.canLay0 (.tuple (xs.map wrd)) = true := by
    show PyData.canLayAll0 (xs.map wrd) = true
    induction xs with
    | nil => rfl
    | cons l r ih =>
      show (PyData.canLay0 (wrd l) && PyData.canLayAll0 (r.map wrd)) = true
      rw [Bool.and_eq_true]
      refine ⟨?_, ih fun x hx => h x (List.mem_cons_of_mem _ hx)⟩
      show (tk l).cps.all (· < 0x110000) = true
      rw [Array.all_eq_true']
      intro c hc
      have := h l List.mem_cons_self c (by simpa [tk] using hc)
      exact decide_eq_true (by omega)
  have hd : PyData.depth (.tuple (xs.map wrd)) ≤ 64 := by
    have : PyData.depthAll (xs.map wrd) = 0 := by
      induction xs with
      | nil => rfl
      | cons l r ih => show max (PyData.depth (wrd l)) (PyData.depthAll (r.map wrd)) = 0; rw [ih (fun x hx => h x (List.mem_cons_of_mem _ hx)) (by
          have h2 : (PyData.canLay0 (wrd l) && PyData.canLayAll0 (r.map wrd)) = true := hc
          exact (Bool.and_eq_true_iff.mp h2).2)]; rfl
    show PyData.depthAll (xs.map wrd) + 1 ≤ 64
    omega
  have hs : SeqAt.shaped (.tuple (xs.map wrd)) = true := by
    unfold SeqAt.shaped
    rw [hc, decide_eq_true hd]
    rfl
  unfold fNe
  rw [if_pos ⟨hs, hs⟩, SeqAt.eqv_refl _ hc]
  rfl
theorem toks_al : ∀ (n : Nat) (l : List Nat), l.length ≤ n → AL l → ∀ w ∈ toks l, AL w
  | _, [], _, _ => by intro w hw; rw [toks] at hw; cases hw
  | n + 1, c :: r, hl, ha => by
    have hr : r.length ≤ n := Nat.le_of_succ_le_succ hl
    have hc := ha c List.mem_cons_self
    have har : AL r := fun x hx => ha x (List.mem_cons_of_mem _ hx)
    intro w hw
    cases h : run c with
    | true =>
      rw [toks_run h] at hw
      rcases List.mem_cons.mp hw with rfl | hw
      · intro x hx
        rcases List.mem_cons.mp hx with rfl | hx
        · exact hc
        · exact har x ((List.takeWhile_sublist _).mem hx)
      · exact toks_al n _ (Nat.le_trans (List.dropWhile_sublist _).length_le hr) (fun x hx => har x ((List.dropWhile_sublist _).mem hx)) w hw
    | false =>
      by_cases hb : c = 32 ∨ c = 10
      · rw [toks_blank h hb] at hw
        exact toks_al n r hr har w hw
      · rw [toks_sign h hb] at hw
        rcases List.mem_cons.mp hw with rfl | hw
        · intro x hx
          have : x = c := by simpa using hx
          omega
        · exact toks_al n r hr har w hw
theorem toks_len : ∀ (n : Nat) (l : List Nat), l.length ≤ n → ∀ w ∈ toks l, w.length ≤ l.length
  | _, [], _ => by intro w hw; rw [toks] at hw; cases hw
  | n + 1, c :: r, hl => by
    have hr : r.length ≤ n := Nat.le_of_succ_le_succ hl
    intro w hw
    rw [List.length_cons]
    cases h : run c with
    | true =>
      rw [toks_run h] at hw
      rcases List.mem_cons.mp hw with rfl | hw
      · rw [List.length_cons]
        have := (List.takeWhile_sublist (l := r) run).length_le
        omega
      · have := toks_len n _ (Nat.le_trans (List.dropWhile_sublist _).length_le hr) w hw
        have h2 := (List.dropWhile_sublist (l := r) run).length_le
        omega
    | false =>
      by_cases hb : c = 32 ∨ c = 10
      · rw [toks_blank h hb] at hw
        have := toks_len n r hr w hw
        omega
      · rw [toks_sign h hb] at hw
        rcases List.mem_cons.mp hw with rfl | hw
        · simp
        · have := toks_len n r hr w hw
          omega
end K01
namespace K01
open PySem Ow
theorem sk_al {n : Nat} {d : D} (h : SK n d) : ∃ l : List Nat, d = wrd l ∧ l.length ≤ n ∧ AL l := by
  obtain ⟨s, rfl, h1, h2⟩ := h
  exact ⟨s.cps.toList, by unfold wrd; rw [tk_of], h1, h2⟩
theorem w1 (ρ : Rho) (d : D) (o : List Sl) : wb [.pu d] o ρ = ρ := by
  cases o with
  | nil => rfl
  | cons a o => rw [wb_pu, wb_nil]
theorem w2 (ρ : Rho) (d e : D) (o : List Sl) : wb [.pu d, .pu e] o ρ = ρ := by
  cases o with
  | nil => rfl
  | cons a o => rw [wb_pu, w1]
/-- the first loop: each text parted alike -/
theorem loopT {a : Nat → Sl} : ∀ (ts : List D) (t5 : Sl) (s0 s1 s2 s3 s4 : Sl), (∀ t ∈ ts, SK 12000 t) → okS (some t5) = true → ∃ t5', okS (some t5') = true ∧
    forL (gNm 5) (oIfS (oTst (oBin fNe (oPu (oFrz (oCall g_tokens_of (oCons (oPu (oKeep (oVar 5))) oNil)))) (oPu (oFrz (oCall g__law_parted (oCons (oPu (oKeep (oVar 5))) oNil)))))) (oRet (oRes (oC (.bool false)))) oNext) ts [s0, s1, s2, s3, s4, t5, .no, .no, .no, .no, .no] = .nx [s0, s1, s2, s3, s4, t5', .no, .no, .no, .no, .no]
  | [], t5, s0, s1, s2, s3, s4, _, h5 => ⟨t5, h5, rfl⟩
  | t :: ts, t5, s0, s1, s2, s3, s4, h, h5 => by
    obtain ⟨l, rfl, hl, ha⟩ := sk_al (h t List.mem_cons_self)
    obtain ⟨o1, e1⟩ := tokens_eq ha (by omega)
    obtain ⟨o2, e2⟩ := parted_eq ha (by omega)
    obtain ⟨t5', q1, q2⟩ := loopT (a := a) ts (.pu (wrd l)) s0 s1 s2 s3 s4 (fun x hx => h x (List.mem_cons_of_mem _ hx)) rfl
    refine ⟨t5', q1, ?_⟩
    have n1 := neTup (toks_al _ l (Nat.le_refl _) ha)
    have e1' : g_tokens_of [.pu (wrd l)] = .ret (.pu (.tuple ((toks l).map wrd))) o1 := e1
    have e2' : g__law_parted [.pu (wrd l)] = .ret (.pu (.tuple ((toks l).map wrd))) o2 := e2
    rw [forL_cons]
    simp [setSl_ok, h5, ap_var, e1', e2', w1, n1, q2]
/-- the second: the numbers as texts -/
theorem loopN {s0 s1 s2 s3 s4 s5 : Sl} : ∃ kvs s7, okS (some s7) = true ∧ (∀ s : Str, (valD kvs (Sum.inr s : L2.Key)).isSome = decide (s ∈ (List.range 256).map strI)) ∧
    forL (gNm 7) (oStA 6 (oC (.bool true)) (oFrz (oCB fStr1 (oCons (oVar 7) oNil)))) (rangeD 0 256) [s0, s1, s2, s3, s4, s5, .ow false (.dk []), .no, .no, .no, .no] = .nx [s0, s1, s2, s3, s4, s5, .ow false (.dk kvs), s7, .no, .no, .no] := by
  obtain ⟨ρ', h1, kvs, s7, rfl, h2, h3, h4⟩ := forL_inv (g := gNm 7) (b := oStA 6 (oC (.bool true)) (oFrz (oCB fStr1 (oCons (oVar 7) oNil))))
    (fun r ρ => ∃ kvs s7, ρ = [s0, s1, s2, s3, s4, s5, .ow false (.dk kvs), s7, .no, .no, .no] ∧ okS (some s7) = true ∧ (∃ n : Nat, n ≤ 256 ∧ r = (List.range' n (256 - n)).map (fun i => PyData.int ((i : Nat) : Int)) ∧ kvs.length ≤ n ∧ ∀ s : Str, (valD kvs (Sum.inr s : L2.Key)).isSome = decide (s ∈ (List.range n).map strI)) ∧ (r = [] → ∀ s : Str, (valD kvs (Sum.inr s : L2.Key)).isSome = decide (s ∈ (List.range 256).map strI)))
    (ds := rangeD 0 256) (ρ := [s0, s1, s2, s3, s4, s5, .ow false (.dk []), .no, .no, .no, .no]) (by
      rintro d r ρ _ ⟨kvs, s7, rfl, h7, ⟨n, hn, hr, hl, hv⟩, _⟩
      have hn2 : n < 256 := by
        rcases Nat.lt_or_ge n 256 with q | q
        · exact q
        · rw [show 256 - n = 0 by omega] at hr; cases hr
      rw [show 256 - n = (256 - (n + 1)) + 1 by omega, List.range'_succ, List.map_cons] at hr
      obtain ⟨hd, hr⟩ := List.cons.inj hr
      have hs := log_ok (i := ((n : Nat) : Int)) (by omega) (by omega)
      rw [Int.natAbs_natCast] at hs
      have hkl : kvs.length < 16000000 := by omega
      have hv2 : ∀ s : Str, (valD (putD kvs (Sum.inr (strI n) : L2.Key) (.bool true)) (Sum.inr s : L2.Key)).isSome = decide (s ∈ (List.range (n + 1)).map strI) := by
        intro s
        rw [valD_put, List.range_succ, List.map_append]
        by_cases q : s = strI n
        · subst q; simp
        · have q2 : ¬ (Sum.inr s : L2.Key) = Sum.inr (strI n) := fun e => q (Sum.inr.inj e)
          rw [if_neg q2, hv]
          simp [q]
      refine ⟨[s0, s1, s2, s3, s4, s5, .ow false (.dk kvs), .pu (.int n), .no, .no, .no], [s0, s1, s2, s3, s4, s5, .ow false (.dk (putD kvs (Sum.inr (strI n) : L2.Key) (.bool true))), .pu (.int n), .no, .no, .no], ?_, .inl ?_, ⟨_, _, rfl, rfl, ⟨n + 1, by omega, hr, Nat.le_trans (putD_len _ _ _) (by omega), hv2⟩, ?_⟩⟩
      · simp [setSl_ok, h7, hd]
      · simp [ap_var, hs, hkl, strI]
      · intro q
        have : n + 1 = 256 := by
          rw [q] at hr
          have := congrArg List.length hr
          simp at this
          omega
        rw [this] at hv2
        exact hv2)
    ⟨[], .no, rfl, rfl, ⟨0, by decide, by unfold rangeD; rw [List.range_eq_range']; simp, by decide, fun s => by simp [valD_nil]⟩, by intro q; exact absurd (congrArg List.length q) (by rw [rangeD_len]; decide)⟩
  exact ⟨kvs, s7, h2, h4 rfl, h1⟩
/-- the third: each word judged alike -/
theorem loopW {kvs : List (L2.Key × D)} (hk : ∀ s : Str, (valD kvs (Sum.inr s : L2.Key)).isSome = decide (s ∈ (List.range 256).map strI)) {s0 s1 s3 s4 s5 s7 : Sl} : ∀ (ws : List D) (s8 s9 s10 : Sl), (∀ t ∈ ws, SK 12000 t) → okS (some s8) = true → okS (some s9) = true → okS (some s10) = true → ∃ s8' s9' s10',
    forL (gNm 8) (oSeq (oSet 9 (oCall g_fits_name (oCons (oPu (oKeep (oVar 8))) oNil)))
 (oSeq (oSet 10 (oCall g_fits_number (oCons (oPu (oKeep (oVar 8))) oNil)))
 (oSeq (oIfS (oOr (oNot (oTst (oIsi "bool" (oVar 9)))) (oTst (oBin fNe (oVar 9) (oPu (oFrz (oCall g__law_is_name (oCons (oPu (oKeep (oVar 8))) (oCons (oPu (oKeep (oVar 2))) oNil))))))))
 (oRet (oRes (oC (.bool false))))
 oNext)
 (oIfS (oOr (oNot (oTst (oIsi "bool" (oVar 10)))) (oTst (oBin fNe (oVar 10) (oPu (oFrz (oInA false (oVar 8) (oVar 6)))))))
 (oRet (oRes (oC (.bool false))))
 oNext)))) ws [s0, s1, .pu (.list RESD), s3, s4, s5, .ow false (.dk kvs), s7, s8, s9, s10] = .nx [s0, s1, .pu (.list RESD), s3, s4, s5, .ow false (.dk kvs), s7, s8', s9', s10']
  | [], s8, s9, s10, _, _, _, _ => ⟨s8, s9, s10, rfl⟩
  | t :: ws, s8, s9, s10, h, h8, h9, h10 => by
    obtain ⟨l, rfl, hl, ha⟩ := sk_al (h t List.mem_cons_self)
    obtain ⟨o1, e1⟩ := name1 (l := l) (by omega)
    obtain ⟨o2, e2⟩ := name2 (l := l) (by omega)
    obtain ⟨o3, e3⟩ := num1 ha (by omega)
    obtain ⟨s8', s9', s10', q⟩ := loopW hk ws (.pu (wrd l)) (.pu (.bool (nameV l))) (.pu (.bool (numV l))) (fun x hx => h x (List.mem_cons_of_mem _ hx)) rfl rfl rfl
    refine ⟨s8', s9', s10', ?_⟩
    have hkey : keyOf (wrd l) = some (Sum.inr (tk l)) := rfl
    have hin : (valD kvs (Sum.inr (tk l) : L2.Key)).isSome = numV l := by
      rw [hk]
      have := num_iff l
      cases hv : numV l with
      | true => rw [hv] at this; exact decide_eq_true (this.mp rfl)
      | false => rw [hv] at this; exact decide_eq_false fun q => by cases this.mpr q
    have i1 : L2.kitB "bool" "bool" = some true := isiB true
    rw [forL_cons]
    simp [setSl_ok, h8, h9, h10, ap_var, e1, e2, e3, w1, w2, neBool, tyName, i1, hkey, hin]
    exact q
theorem law_eq (ns : List Int) (hl : ns.length ≤ 63) : ∃ outs, g_law [.pu (Ow.scr (ns.map PySem.PyData.int))] = .ret (.pu (.bool true)) outs := by
  obtain ⟨ds, hd, e0⟩ := begin_ok ns hl
  obtain ⟨y1, ds1, hd1, k1, e1⟩ := drawn hd res_res
  obtain ⟨y2, ds2, hd2, k2, e2⟩ := drawn hd1 res_res
  obtain ⟨ws, ds3, hd3, hw, hwl, e3⟩ := words_ok hd2 res_res
  obtain ⟨l1, rfl, hl1, ha1⟩ := sk_al k1
  obtain ⟨l2, rfl, hl2, ha2⟩ := sk_al k2
  obtain ⟨o4, e4⟩ := parted_eq ha1 (by omega)
  have e4' : g__law_parted [.pu (wrd l1)] = .ret (.pu (.tuple ((toks l1).map wrd))) o4 := e4
  have hall : ((tk l1) ++ (tk l2)).length ≤ 12000 := by rw [Str.length_append, tk_len, tk_len]; omega
  have hasc : ASC (tk l1 ++ tk l2) := asc_app (asc_al ha1) (asc_al ha2)
  obtain ⟨t5, q5, e5⟩ := loopT (a := fun _ => .no) [wrd l1, wrd l2, wrd l1, .str "", .str " \n", .str (L2.cutS (tk l1 ++ tk l2) none (some 6000))] .no (.pu (scr (ns.map PyData.int))) (.ow false (.li ds2)) (.pu (.list RESD)) (.pu (wrd l1)) (.pu (wrd l2)) (by
    intro t ht
    simp only [List.mem_cons, List.not_mem_nil, or_false] at ht
    rcases ht with rfl | rfl | rfl | rfl | rfl | rfl
    · exact sk_mono k1 (by decide)
    · exact sk_mono k2 (by decide)
    · exact sk_mono k1 (by decide)
    · exact sk_lit (by decide +kernel)
    · exact sk_lit (by decide +kernel)
    · exact ⟨_, rfl, Nat.le_trans (cut_le _ _ _) hall, cut_asc hasc⟩) rfl
  obtain ⟨kvs, s7, q7, hk, e6⟩ := loopN (s0 := .pu (scr (ns.map PyData.int))) (s1 := .ow false (.li ds2)) (s2 := .pu (.list RESD)) (s3 := .pu (wrd l1)) (s4 := .pu (wrd l2)) (s5 := t5)
  obtain ⟨s8, s9, s10, e7⟩ := loopW hk (s0 := .pu (scr (ns.map PyData.int))) (s1 := .ow false (.li ds3)) (s3 := .pu (wrd l1)) (s4 := .pu (wrd l2)) (s5 := t5) (s7 := s7) (ws ++ cutD ((toks l1).map wrd) none (some 9)) .no .no .no (by
    intro t ht
    rcases List.mem_append.mp ht with ht | ht
    · exact sk_mono (hw t ht) (by decide)
    · unfold cutD at ht
      have h2 := List.mem_of_mem_drop (List.mem_of_mem_take ht)
      obtain ⟨w, hw1, rfl⟩ := List.mem_map.mp h2
      refine ⟨tk w, rfl, ?_, toks_al _ l1 (Nat.le_refl _) ha1 w hw1⟩
      rw [tk_len]
      exact Nat.le_trans (toks_len _ l1 (Nat.le_refl _) w hw1) (by omega)) rfl rfl rfl
  have c9 : (cutD ((toks l1).map wrd) none (some 9)).length ≤ 9 := by
    unfold cutD
    rw [List.length_take]
    refine Nat.le_trans (Nat.min_le_left _ _) ?_
    rw [HT.sIx_none, Nat.sub_zero]
    show HT.sIx _ _ (some ((9 : Nat) : Int)) ≤ 9
    rw [HT.sIx_nat]
    exact Nat.min_le_left _ _
  have z1 : (tk l1).length + (tk l2).length ≤ 16000000 := by rw [tk_len, tk_len]; omega
  have z2 : (tk l1 ++ tk l2).length ≤ 16000000 := by omega
  have z3 : ws.length + (cutD ((toks l1).map wrd) none (some 9)).length ≤ 16000000 := by omega
  have w5 : fAdd (wrd l1) (wrd l2) = some (.pu (.str (tk l1 ++ tk l2))) := by
    show fAdd (.str (tk l1)) (.str (tk l2)) = _
    rw [f_addS, if_pos z1]
  have hs : scr (ns.map PyData.int) = scr (ns.map PyData.int) := rfl
  refine ⟨[.pu (scr (ns.map PyData.int))], ?_⟩
  simp [g_law, fnOf_eq, b_law, ap_var, setSl_ok, e0, reserved_ok, e1, e2, w1, w2, w5, z2, e5, e6, e3, e4', z3, e7]
end K01
namespace K01
open PySem PySem.Spec PyProof.Rows L2 Ow
def q_tokens_of : He.DefD := ⟨("tokens_of", none), "tokens_of", "tokens_of", defArgs s_tokens_of, defBody s_tokens_of, defScope s_tokens_of, [], []⟩
def q_fits_name : He.DefD := ⟨("fits_name", none), "fits_name", "fits_name", defArgs s_fits_name, defBody s_fits_name, defScope s_fits_name, [], []⟩
def q_fits_number : He.DefD := ⟨("fits_number", none), "fits_number", "fits_number", defArgs s_fits_number, defBody s_fits_number, defScope s_fits_number, [], []⟩
def q__law_begin : He.DefD := ⟨("_law_begin", none), "_law_begin", "_law_begin", defArgs s__law_begin, defBody s__law_begin, defScope s__law_begin, [], []⟩
def q__law_draw : He.DefD := ⟨("_law_draw", none), "_law_draw", "_law_draw", defArgs s__law_draw, defBody s__law_draw, defScope s__law_draw, [], []⟩
def q__law_pick : He.DefD := ⟨("_law_pick", none), "_law_pick", "_law_pick", defArgs s__law_pick, defBody s__law_pick, defScope s__law_pick, [], []⟩
def q__law_rare : He.DefD := ⟨("_law_rare", none), "_law_rare", "_law_rare", defArgs s__law_rare, defBody s__law_rare, defScope s__law_rare, [], []⟩
def q__law_letters : He.DefD := ⟨("_law_letters", none), "_law_letters", "_law_letters", defArgs s__law_letters, defBody s__law_letters, defScope s__law_letters, [], []⟩
def q__law_capitals : He.DefD := ⟨("_law_capitals", none), "_law_capitals", "_law_capitals", defArgs s__law_capitals, defBody s__law_capitals, defScope s__law_capitals, [], []⟩
def q__law_signs : He.DefD := ⟨("_law_signs", none), "_law_signs", "_law_signs", defArgs s__law_signs, defBody s__law_signs, defScope s__law_signs, [], []⟩
def q__law_reserved : He.DefD := ⟨("_law_reserved", none), "_law_reserved", "_law_reserved", defArgs s__law_reserved, defBody s__law_reserved, defScope s__law_reserved, [], []⟩
def q__law_spelt : He.DefD := ⟨("_law_spelt", none), "_law_spelt", "_law_spelt", defArgs s__law_spelt, defBody s__law_spelt, defScope s__law_spelt, [], []⟩
def q__law_piece : He.DefD := ⟨("_law_piece", none), "_law_piece", "_law_piece", defArgs s__law_piece, defBody s__law_piece, defScope s__law_piece, [], []⟩
def q__law_drawn_text : He.DefD := ⟨("_law_drawn_text", none), "_law_drawn_text", "_law_drawn_text", defArgs s__law_drawn_text, defBody s__law_drawn_text, defScope s__law_drawn_text, [], []⟩
def q__law_parted : He.DefD := ⟨("_law_parted", none), "_law_parted", "_law_parted", defArgs s__law_parted, defBody s__law_parted, defScope s__law_parted, [], []⟩
def q__law_is_name : He.DefD := ⟨("_law_is_name", none), "_law_is_name", "_law_is_name", defArgs s__law_is_name, defBody s__law_is_name, defScope s__law_is_name, [], []⟩
def q__law_words : He.DefD := ⟨("_law_words", none), "_law_words", "_law_words", defArgs s__law_words, defBody s__law_words, defScope s__law_words, [], []⟩
def q_law : He.DefD := ⟨("law", none), "law", "law", defArgs s_law, defBody s_law, defScope s_law, [], []⟩
def fn : List He.DefD := [q_tokens_of, q_fits_name, q_fits_number, q__law_begin, q__law_draw, q__law_pick, q__law_rare, q__law_letters, q__law_capitals, q__law_signs, q__law_reserved, q__law_spelt, q__law_piece, q__law_drawn_text, q__law_parted, q__law_is_name, q__law_words, q_law]
def fa : List He.Fa := [.glo "tokens_of", .glo "fits_name", .glo "fits_number", .glo "_law_begin", .glo "_law_draw", .glo "_law_pick", .glo "_law_rare", .glo "_law_letters", .glo "_law_capitals", .glo "_law_signs", .glo "_law_reserved", .glo "_law_spelt", .glo "_law_piece", .glo "_law_drawn_text", .glo "_law_parted", .glo "_law_is_name", .glo "_law_words", .glo "law", .free "abs", .free "all", .free "bool", .free "int", .free "isinstance", .free "len", .free "list", .free "range", .free "str", .free "tuple"]
def ex (K : PySem.W.Frag) : Bool := konG K "DIGITS" (.str "0123456789") && konG K "RESERVED" d_RESERVED && konG K "RUN" (.str "abcdefghijklmnopqrstuvwxyzABCDEFGHIJKLMNOPQRSTUVWXYZ0123456789") && konG K "SMALL" (.str "abcdefghijklmnopqrstuvwxyz")
abbrev R : PySem.W.OpenRow := PySem.W.OpenLaw.row PySem.Challenge.rw_wiredossier_k01_tokens
abbrev hk : PySem.W.Hook := hookQ 4 fa fn ex
def ob (s : PySem.W.SharedT) : He.AlD := obsQG 4 fa fn ex (HandSHeadRun.getT s)
theorem ob_eq (s : PySem.W.SharedT) : ob s = hk.obs s.abs := obsQG_eq (HandSHeadRun.getT_eq s)
abbrev ls : List Str := ["SMALL", "DIGITS", "RUN", "RESERVED", "tokens_of", "fits_name", "fits_number", "_law_begin", "_law_draw", "_law_pick", "_law_rare", "_law_letters", "_law_capitals", "_law_signs", "_law_reserved", "_law_spelt", "_law_piece", "_law_drawn_text", "_law_parted", "_law_is_name", "_law_words"]
theorem hd_run (w : World) : HandSHeadRun.RunEq R (PySem.W.view R.prog [23]) hk ob 4000 ls w := by
  intro os
  kernel_rfl
theorem hd_facts {P : Program} {w : World} {K : PySem.W.Frag} {h : Heap} {mg : Str → Option Value} {f : Addr} (X : K.In h) (G : h.Ns mainGlobals mg) (hfa : mg ("law" : Str) = some (.ref f)) (c : He.SaysD fa fn K) (cx : ex K = true) :
    ∃ fd : FuncData, (∀ (s : Shared) (v : Value), BindsTo s fd ⟨[v], []⟩ [("script", v)]) ∧ ∀ base : Heap, K.In base → base.Ns mainGlobals mg → FnOk P w K mg base CX0 6 f fd ["script"] (spD K 1 g_law) := by
  unfold ex at cx
  obtain ⟨cx, k_SMALL⟩ := He.ba cx
  obtain ⟨cx, k_RUN⟩ := He.ba cx
  obtain ⟨cx, k_RESERVED⟩ := He.ba cx
  have k_DIGITS := cx
  have M : Mg K mg := ⟨He.free_ok X G (c.fact 18 (f := .free "abs") rfl), He.free_ok X G (c.fact 19 (f := .free "all") rfl), He.free_ok X G (c.fact 20 (f := .free "bool") rfl), He.free_ok X G (c.fact 21 (f := .free "int") rfl), He.free_ok X G (c.fact 22 (f := .free "isinstance") rfl), He.free_ok X G (c.fact 23 (f := .free "len") rfl), He.free_ok X G (c.fact 24 (f := .free "list") rfl), He.free_ok X G (c.fact 25 (f := .free "range") rfl), He.free_ok X G (c.fact 26 (f := .free "str") rfl), He.free_ok X G (c.fact 27 (f := .free "tuple") rfl), konG_ok X G k_DIGITS, konG_ok X G k_RESERVED, konG_ok X G k_RUN, konG_ok X G k_SMALL⟩
  obtain ⟨fd_tokens_of, F_tokens_of⟩ := c.def_ 0 (d := q_tokens_of) rfl
  have e_tokens_of := He.glo_ok X G (c.fact 0 (f := .glo "tokens_of") rfl)
  obtain ⟨fd_fits_name, F_fits_name⟩ := c.def_ 1 (d := q_fits_name) rfl
  have e_fits_name := He.glo_ok X G (c.fact 1 (f := .glo "fits_name") rfl)
  obtain ⟨fd_fits_number, F_fits_number⟩ := c.def_ 2 (d := q_fits_number) rfl
  have e_fits_number := He.glo_ok X G (c.fact 2 (f := .glo "fits_number") rfl)
  obtain ⟨fd__law_begin, F__law_begin⟩ := c.def_ 3 (d := q__law_begin) rfl
  have e__law_begin := He.glo_ok X G (c.fact 3 (f := .glo "_law_begin") rfl)
  obtain ⟨fd__law_draw, F__law_draw⟩ := c.def_ 4 (d := q__law_draw) rfl
  have e__law_draw := He.glo_ok X G (c.fact 4 (f := .glo "_law_draw") rfl)
  obtain ⟨fd__law_pick, F__law_pick⟩ := c.def_ 5 (d := q__law_pick) rfl
  have e__law_pick := He.glo_ok X G (c.fact 5 (f := .glo "_law_pick") rfl)
  obtain ⟨fd__law_rare, F__law_rare⟩ := c.def_ 6 (d := q__law_rare) rfl
  have e__law_rare := He.glo_ok X G (c.fact 6 (f := .glo "_law_rare") rfl)
  obtain ⟨fd__law_letters, F__law_letters⟩ := c.def_ 7 (d := q__law_letters) rfl
  have e__law_letters := He.glo_ok X G (c.fact 7 (f := .glo "_law_letters") rfl)
  obtain ⟨fd__law_capitals, F__law_capitals⟩ := c.def_ 8 (d := q__law_capitals) rfl
  have e__law_capitals := He.glo_ok X G (c.fact 8 (f := .glo "_law_capitals") rfl)
  obtain ⟨fd__law_signs, F__law_signs⟩ := c.def_ 9 (d := q__law_signs) rfl
  have e__law_signs := He.glo_ok X G (c.fact 9 (f := .glo "_law_signs") rfl)
  obtain ⟨fd__law_reserved, F__law_reserved⟩ := c.def_ 10 (d := q__law_reserved) rfl
  have e__law_reserved := He.glo_ok X G (c.fact 10 (f := .glo "_law_reserved") rfl)
  obtain ⟨fd__law_spelt, F__law_spelt⟩ := c.def_ 11 (d := q__law_spelt) rfl
  have e__law_spelt := He.glo_ok X G (c.fact 11 (f := .glo "_law_spelt") rfl)
  obtain ⟨fd__law_piece, F__law_piece⟩ := c.def_ 12 (d := q__law_piece) rfl
  have e__law_piece := He.glo_ok X G (c.fact 12 (f := .glo "_law_piece") rfl)
  obtain ⟨fd__law_drawn_text, F__law_drawn_text⟩ := c.def_ 13 (d := q__law_drawn_text) rfl
  have e__law_drawn_text := He.glo_ok X G (c.fact 13 (f := .glo "_law_drawn_text") rfl)
  obtain ⟨fd__law_parted, F__law_parted⟩ := c.def_ 14 (d := q__law_parted) rfl
  have e__law_parted := He.glo_ok X G (c.fact 14 (f := .glo "_law_parted") rfl)
  obtain ⟨fd__law_is_name, F__law_is_name⟩ := c.def_ 15 (d := q__law_is_name) rfl
  have e__law_is_name := He.glo_ok X G (c.fact 15 (f := .glo "_law_is_name") rfl)
  obtain ⟨fd__law_words, F__law_words⟩ := c.def_ 16 (d := q__law_words) rfl
  have e__law_words := He.glo_ok X G (c.fact 16 (f := .glo "_law_words") rfl)
  obtain ⟨fd_law, F_law⟩ := c.def_ 17 (d := q_law) rfl
  have e_law := He.glo_ok X G (c.fact 17 (f := .glo "law") rfl)
  have e := hfa.symm.trans e_law
  cases e
  have b := FunD.bindsA (ps := ["script"]) F_law fun _ _ _ _ _ _ us hl => match us, hl with | [_], _ => rfl
  refine ⟨fd_law, fun s v => b s [v] rfl, fun base _ _ => ?_⟩
  have c_tokens_of : Cal P w K mg base 1 "tokens_of" ["text"] g_tokens_of := Cal.of (ok_tokens_of M F_tokens_of) e_tokens_of F_tokens_of fun _ _ _ _ _ _ us hl => match us, hl with | [_], _ => rfl
  have c_fits_name : Cal P w K mg base 1 "fits_name" ["token"] g_fits_name := Cal.of (ok_fits_name M F_fits_name) e_fits_name F_fits_name fun _ _ _ _ _ _ us hl => match us, hl with | [_], _ => rfl
  have c_fits_number : Cal P w K mg base 1 "fits_number" ["token"] g_fits_number := Cal.of (ok_fits_number M F_fits_number) e_fits_number F_fits_number fun _ _ _ _ _ _ us hl => match us, hl with | [_], _ => rfl
  have c__law_begin : Cal P w K mg base 1 "_law_begin" ["script"] g__law_begin := Cal.of (ok__law_begin M F__law_begin) e__law_begin F__law_begin fun _ _ _ _ _ _ us hl => match us, hl with | [_], _ => rfl
  have c__law_draw : Cal P w K mg base 1 "_law_draw" ["d", "many"] g__law_draw := Cal.of (ok__law_draw M F__law_draw) e__law_draw F__law_draw fun _ _ _ _ _ _ us hl => match us, hl with | [_, _], _ => rfl
  have c__law_pick : Cal P w K mg base 2 "_law_pick" ["d", "row"] g__law_pick := Cal.of (ok__law_pick M F__law_pick c__law_draw) e__law_pick F__law_pick fun _ _ _ _ _ _ us hl => match us, hl with | [_, _], _ => rfl
  have c__law_rare : Cal P w K mg base 2 "_law_rare" ["d", "many"] g__law_rare := Cal.of (ok__law_rare M F__law_rare c__law_draw) e__law_rare F__law_rare fun _ _ _ _ _ _ us hl => match us, hl with | [_, _], _ => rfl
  have c__law_letters : Cal P w K mg base 1 "_law_letters" [] g__law_letters := Cal.of (ok__law_letters M F__law_letters) e__law_letters F__law_letters fun _ _ _ _ _ _ us hl => match us, hl with | [], _ => rfl
  have c__law_capitals : Cal P w K mg base 1 "_law_capitals" [] g__law_capitals := Cal.of (ok__law_capitals M F__law_capitals) e__law_capitals F__law_capitals fun _ _ _ _ _ _ us hl => match us, hl with | [], _ => rfl
  have c__law_signs : Cal P w K mg base 1 "_law_signs" [] g__law_signs := Cal.of (ok__law_signs M F__law_signs) e__law_signs F__law_signs fun _ _ _ _ _ _ us hl => match us, hl with | [], _ => rfl
  have c__law_reserved : Cal P w K mg base 1 "_law_reserved" [] g__law_reserved := Cal.of (ok__law_reserved M F__law_reserved) e__law_reserved F__law_reserved fun _ _ _ _ _ _ us hl => match us, hl with | [], _ => rfl
  have c__law_spelt : Cal P w K mg base 3 "_law_spelt" ["d", "many"] g__law_spelt := Cal.of (ok__law_spelt M F__law_spelt c__law_letters c__law_pick) e__law_spelt F__law_spelt fun _ _ _ _ _ _ us hl => match us, hl with | [_, _], _ => rfl
  have c__law_piece : Cal P w K mg base 4 "_law_piece" ["d", "reserved"] g__law_piece := Cal.of (ok__law_piece M F__law_piece c__law_capitals c__law_draw c__law_pick c__law_signs c__law_spelt) e__law_piece F__law_piece fun _ _ _ _ _ _ us hl => match us, hl with | [_, _], _ => rfl
  have c__law_drawn_text : Cal P w K mg base 5 "_law_drawn_text" ["d", "reserved"] g__law_drawn_text := Cal.of (ok__law_drawn_text M F__law_drawn_text c__law_draw c__law_piece c__law_rare) e__law_drawn_text F__law_drawn_text fun _ _ _ _ _ _ us hl => match us, hl with | [_, _], _ => rfl
  have c__law_parted : Cal P w K mg base 2 "_law_parted" ["text"] g__law_parted := Cal.of (ok__law_parted M F__law_parted c__law_capitals c__law_letters) e__law_parted F__law_parted fun _ _ _ _ _ _ us hl => match us, hl with | [_], _ => rfl
  have c__law_is_name : Cal P w K mg base 2 "_law_is_name" ["word", "reserved"] g__law_is_name := Cal.of (ok__law_is_name M F__law_is_name c__law_letters) e__law_is_name F__law_is_name fun _ _ _ _ _ _ us hl => match us, hl with | [_, _], _ => rfl
  have c__law_words : Cal P w K mg base 4 "_law_words" ["d", "reserved"] g__law_words := Cal.of (ok__law_words M F__law_words c__law_capitals c__law_draw c__law_pick c__law_rare c__law_signs c__law_spelt) e__law_words F__law_words fun _ _ _ _ _ _ us hl => match us, hl with | [_, _], _ => rfl
  exact ok_law M F_law c__law_begin c__law_drawn_text c__law_is_name c__law_parted c__law_reserved c__law_words c_fits_name c_fits_number c_tokens_of
end K01
open PySem PySem.W PySem.Calls PyProof.Rows
theorem PySem.Challenge.cw_wiredossier_k01_tokens_holds : PySem.Challenge.rw_wiredossier_k01_tokens.Holds := by
  w_on; o_law
  refine HandSHeadRun.head_any (r := OpenLaw.row PySem.Challenge.rw_wiredossier_k01_tokens) (q := view (OpenLaw.row PySem.Challenge.rw_wiredossier_k01_tokens).prog [23]) (H := K01.hk) (ob := K01.ob) (M := 4000) (loose := K01.ls) (d := HandSHeadRun.topDef (OpenLaw.row PySem.Challenge.rw_wiredossier_k01_tokens).prog 23) (kwd := []) K01.ob_eq
    (by kernel_rfl) (fun s => by kernel_rfl) K01.hd_run (by kernel_rfl) (by kernel_rfl) (by kernel_rfl) (by rfl) (by first | assumption | decide +kernel) (by decide +kernel) ⟨rfl, rfl, rfl, rfl, rfl, by decide +kernel⟩ ?hw ?hc
  case hw => w_witness2
  case hc =>
    refine L2.walk_ofE (l := PySem.Challenge.rw_wiredossier_k01_tokens) (n := 63) (k := 6) (x := "script") (CX := L2.CX0) rfl (by decide) (by kernel_rfl) ⟨rfl, by decide, by decide⟩ ?F (fun _ _ _ _ z => z)
    intro w mg fa h Y G hmg0
    obtain ⟨K, KX, c, cx⟩ := Y
    have hmg : mg ("law" : PySem.Str) = some (.ref fa) := by
      have e : (HandSHeadRun.topDef (OpenLaw.row PySem.Challenge.rw_wiredossier_k01_tokens).prog 23).name = ("law" : PySem.Str) := by kernel_rfl
      rw [← e]
      exact hmg0
    obtain ⟨fd, hb, hF⟩ := K01.hd_facts (P := (PySem.Challenge.rw_wiredossier_k01_tokens).prog) (w := w) KX G hmg c cx
    exact ⟨K, fd, Ow.spD K 1 K01.g_law, KX, hb, fun H a ns hl _ hS => Ow.sp_law (outs := []) (K01.law_eq ns hl) hS, hF⟩
