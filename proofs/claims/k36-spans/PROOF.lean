import PyProof.Rows.All
import HandS.ForMost
import HandS.ForExc
import HandS.Walk
import HandS.Flow
import HandS.Zip
import HandS.Conv
import HandS.NoneIn
import HandS.More
import HandS.StrMore
import HandS.SortInts
import HandS.Wide
import HandS.WideMore
import HandS.RevRange
import HandS.IsInst
import HandS.Defaults
import HandS.TupAny
import HandS.WideBits
import HandS.Steps
import HandS.Head0
import HandS.Head1
import HandS.Head2
import HandS.HeadEnd
import HandS.HeadHook1
import HandS.HeadHook2
import KE.DataMinMax
import KE.SortData
import HandS.TupMul
import HandS.SortKw
import HandS.Style
import KE.GoesMore
import PyProof.EnumMake
import HandS.SetKeys
import HandS.SetFor
import HandS.Strs
import PySem.Challenge.RW_wiredossier_k36_spans
set_option Elab.async false
set_option linter.all false
set_option maxRecDepth 100000
set_option maxHeartbeats 0
/-! Ow: a layer over HandS. A def's body is read as a plain Lean program over data (PyData) with owned lists; the heap is dealt with once, here. -/
namespace Ow
open PySem L2
abbrev D := PyData
/-! ### data that stands still: lists and tuples of the abstract heap, at any depth; a list that is only known to be readable (the script) is told by a word of its own -/
abbrev scr (ds : List D) : D := .dict [(.none, .list ds)]
/-- a tuple that stands in the written part -/
abbrev kon (ds : List D) : D := .dict [(.bool true, .tuple ds)]
def keyD : Key → PyData
  | .inl i => .int i
  | .inr x => .str x
mutual
inductive Rp (K : PySem.W.Frag) (Z : Hp) : V → PyData → Prop
  | non : Rp K Z .non .none
  | bl (b : Bool) : Rp K Z (.bl b) (.bool b)
  | int (i : Int) : Rp K Z (.int i) (.int i)
  | str (x : Str) : Rp K Z (.str x) (.str x)
  | lst {a : Addr} {xs : List V} {ds : List PyData} : Z a = some (.lst xs) → RpAll K Z xs ds → Rp K Z (.ref a) (.list ds)
  | tup {a : Addr} {xs : List V} {ds : List PyData} : Z a = some (.tup xs) → RpAll K Z xs ds → Rp K Z (.ref a) (.tuple ds)
  | kon {a : Addr} {xs : List V} {ds : List PyData} : SqT K Z a xs → RpAll K Z xs ds → Rp K Z (.ref a) (kon ds)
  | frz {a : Addr} {xs : List V} {ds : List PyData} : SqL K Z a xs → RpAll K Z xs ds → Rp K Z (.ref a) (scr ds)
  | dct {a : Addr} {kvs : List (Key × V)} {ds : List (PyData × PyData)} : Z a = some (.dK kvs) → RpKvs K Z kvs ds → Rp K Z (.ref a) (.dict ((.bool false, .none) :: ds))
inductive RpKvs (K : PySem.W.Frag) (Z : Hp) : List (Key × V) → List (PyData × PyData) → Prop
  | nil : RpKvs K Z [] []
  | cons {k : Key} {v : V} {e d : PyData} {kvs : List (Key × V)} {ds : List (PyData × PyData)} : e = keyD k → Rp K Z v d → RpKvs K Z kvs ds → RpKvs K Z ((k, v) :: kvs) ((e, d) :: ds)
inductive RpAll (K : PySem.W.Frag) (Z : Hp) : List V → List PyData → Prop
  | nil : RpAll K Z [] []
  | cons {v : V} {vs : List V} {d : PyData} {ds : List PyData} : Rp K Z v d → RpAll K Z vs ds → RpAll K Z (v :: vs) (d :: ds)
end
theorem sqL_mono {K : PySem.W.Frag} {Z Z' : Hp} {a : Addr} {xs : List V} (e : Same Z Z') (h : SqL K Z a xs) : SqL K Z' a xs := e.seq h
theorem sqT_mono {K : PySem.W.Frag} {Z Z' : Hp} {a : Addr} {xs : List V} (e : Same Z Z') (h : SqT K Z a xs) : SqT K Z' a xs := by
  rcases h with (h | ⟨o, h⟩) | h
  · exact .inl (.inl (e _ _ h))
  · exact .inl (.inr ⟨o, e _ _ h⟩)
  · exact .inr h
section
variable {K : PySem.W.Frag} {Z Z' : Hp}
mutual
theorem Rp.mono {v : V} {d : D} (h : Rp K Z v d) (e : Same Z Z') : Rp K Z' v d := by
  cases h with
  | non => exact .non
  | bl b => exact .bl b
  | int i => exact .int i
  | str x => exact .str x
  | lst h1 h2 => exact .lst (e _ _ h1) (h2.mono e)
  | tup h1 h2 => exact .tup (e _ _ h1) (h2.mono e)
  | kon h1 h2 => exact .kon (sqT_mono e h1) (h2.mono e)
  | frz h1 h2 => exact .frz (sqL_mono e h1) (h2.mono e)
  | dct h1 h2 => exact .dct (e _ _ h1) (h2.mono e)
theorem RpKvs.mono {vs : List (Key × V)} {ds : List (D × D)} (h : RpKvs K Z vs ds) (e : Same Z Z') : RpKvs K Z' vs ds := by
  cases h with
  | nil => exact .nil
  | cons h0 h1 h2 => exact .cons h0 (h1.mono e) (h2.mono e)
theorem RpAll.mono {vs : List V} {ds : List D} (h : RpAll K Z vs ds) (e : Same Z Z') : RpAll K Z' vs ds := by
  cases h with
  | nil => exact .nil
  | cons h1 h2 => exact .cons (h1.mono e) (h2.mono e)
end
mutual
theorem Rp.dp : ∀ {v : V} {d : D}, Rp K Z v d → d.canLay0 = true → Dp K Z v d
  | _, .none, h, _ => by cases h; exact .non
  | _, .bool b, h, _ => by cases h; exact .bl b
  | _, .int b, h, _ => by cases h; exact .int b
  | _, .str b, h, _ => by cases h; exact .str b
  | _, .list ds, h, c => by
    cases h with
    | lst h1 h2 => exact .lst (SqL.of h1) (RpAll.dp h2 (by simpa [PyData.canLay0] using c))
  | _, .tuple ds, h, c => by
    cases h with
    | tup h1 h2 => exact .tup (SqT.of h1) (RpAll.dp h2 (by simpa [PyData.canLay0] using c))
  | _, .dict _, _, c => by simp [PyData.canLay0] at c
theorem RpAll.dp : ∀ {vs : List V} {ds : List D}, RpAll K Z vs ds → PyData.canLayAll0 ds = true → DpAll K Z vs ds
  | _, [], h, _ => by cases h; exact .nil
  | _, d :: ds, h, c => by
    cases h with
    | cons h1 h2 =>
      have c' : d.canLay0 = true ∧ PyData.canLayAll0 ds = true := by simpa [PyData.canLayAll0] using c
      exact .cons (Rp.dp h1 c'.1) (RpAll.dp h2 c'.2)
end
end
theorem RpAll.length {K : PySem.W.Frag} {Z : Hp} : ∀ {vs : List V} {ds : List D}, RpAll K Z vs ds → vs.length = ds.length
  | _, _, .nil => rfl
  | _, _, .cons _ h => by simp [RpAll.length h]
theorem RpAll.get {K : PySem.W.Frag} {Z : Hp} : ∀ {vs : List V} {ds : List D} {i : Nat} {d : D}, RpAll K Z vs ds → ds[i]? = some d → ∃ v, vs[i]? = some v ∧ Rp K Z v d
  | _, _, _, _, .nil, e => by simp at e
  | _, _, 0, _, .cons h _, e => by simp at e; subst e; exact ⟨_, rfl, h⟩
  | _, _, i + 1, _, .cons _ h, e => by
    obtain ⟨v, q, r⟩ := RpAll.get (i := i) h (by simpa using e)
    exact ⟨v, by simpa using q, r⟩
theorem RpAll.get' {K : PySem.W.Frag} {Z : Hp} : ∀ {vs : List V} {ds : List D} {i : Nat} {v : V}, RpAll K Z vs ds → vs[i]? = some v → ∃ d, ds[i]? = some d ∧ Rp K Z v d
  | _, _, _, _, .nil, e => by simp at e
  | _, _, 0, _, .cons h _, e => by simp at e; subst e; exact ⟨_, rfl, h⟩
  | _, _, i + 1, _, .cons _ h, e => by
    obtain ⟨v, q, r⟩ := RpAll.get' (i := i) h (by simpa using e)
    exact ⟨v, by simpa using q, r⟩
theorem RpAll.append {K : PySem.W.Frag} {Z : Hp} : ∀ {vs ws : List V} {ds es : List D}, RpAll K Z vs ds → RpAll K Z ws es → RpAll K Z (vs ++ ws) (ds ++ es)
  | _, _, _, _, .nil, h => h
  | _, _, _, _, .cons q r, h => .cons q (RpAll.append r h)
theorem RpAll.take {K : PySem.W.Frag} {Z : Hp} : ∀ (n : Nat) {vs : List V} {ds : List D}, RpAll K Z vs ds → RpAll K Z (vs.take n) (ds.take n)
  | 0, _, _, _ => by simp; exact .nil
  | n + 1, _, _, .nil => by simp; exact .nil
  | n + 1, _, _, .cons q r => by simp; exact .cons q (RpAll.take n r)
theorem RpAll.drop {K : PySem.W.Frag} {Z : Hp} : ∀ (n : Nat) {vs : List V} {ds : List D}, RpAll K Z vs ds → RpAll K Z (vs.drop n) (ds.drop n)
  | 0, _, _, h => by simpa using h
  | n + 1, _, _, .nil => by simp; exact .nil
  | n + 1, _, _, .cons q r => by simp; exact RpAll.drop n r
theorem RpAll.set {K : PySem.W.Frag} {Z : Hp} {v : V} {d : D} (h : Rp K Z v d) : ∀ (n : Nat) {vs : List V} {ds : List D}, RpAll K Z vs ds → RpAll K Z (vs.set n v) (ds.set n d)
  | _, _, _, .nil => by simp; exact .nil
  | 0, _, _, .cons q r => by simp; exact .cons h r
  | n + 1, _, _, .cons q r => by simp; exact .cons q (RpAll.set h n r)
theorem RpAll.one {K : PySem.W.Frag} {Z : Hp} {v : V} {d : D} (h : Rp K Z v d) : RpAll K Z [v] [d] := .cons h .nil
theorem RpAll.eraseIdx {K : PySem.W.Frag} {Z : Hp} : ∀ (n : Nat) {vs : List V} {ds : List D}, RpAll K Z vs ds → RpAll K Z (vs.eraseIdx n) (ds.eraseIdx n)
  | _, _, _, .nil => by simp; exact .nil
  | 0, _, _, .cons q r => by simp; exact r
  | n + 1, _, _, .cons q r => by simp; exact .cons q (RpAll.eraseIdx n r)
theorem RpAll.reverse {K : PySem.W.Frag} {Z : Hp} {vs : List V} {ds : List D} (h : RpAll K Z vs ds) : RpAll K Z vs.reverse ds.reverse := by
  induction ds generalizing vs with
  | nil => cases h; exact .nil
  | cons d ds ih =>
    cases h with
    | cons q r => rw [List.reverse_cons, List.reverse_cons]; exact RpAll.append (ih r) (RpAll.one q)
theorem RpAll.dropLast {K : PySem.W.Frag} {Z : Hp} {vs : List V} {ds : List D} (h : RpAll K Z vs ds) : RpAll K Z vs.dropLast ds.dropLast := by
  rw [List.dropLast_eq_take, List.dropLast_eq_take, h.length]; exact h.take _
theorem RpAll.ints {K : PySem.W.Frag} {Z : Hp} : ∀ (ns : List Int), RpAll K Z (ns.map V.int) (ns.map PyData.int)
  | [] => .nil
  | n :: ns => .cons (.int n) (RpAll.ints ns)
theorem RpAll.strs {K : PySem.W.Frag} {Z : Hp} : ∀ (ns : List Str), RpAll K Z (ns.map V.str) (ns.map PyData.str)
  | [] => .nil
  | n :: ns => .cons (.str n) (RpAll.strs ns)
theorem RpAll.of_ints {K : PySem.W.Frag} {Z : Hp} : ∀ {vs : List V} {ns : List Int}, RpAll K Z vs (ns.map PyData.int) → vs = ns.map V.int
  | _, [], h => by cases h; rfl
  | _, n :: ns, h => by
    cases h with
    | cons h1 h2 => cases h1; rw [RpAll.of_ints h2]; rfl
theorem RpAll.of_strs {K : PySem.W.Frag} {Z : Hp} : ∀ {vs : List V} {ns : List Str}, RpAll K Z vs (ns.map PyData.str) → vs = ns.map V.str
  | _, [], h => by cases h; rfl
  | _, n :: ns, h => by
    cases h with
    | cons h1 h2 => cases h1; rw [RpAll.of_strs h2]; rfl
theorem RpAll.of_bools {K : PySem.W.Frag} {Z : Hp} : ∀ {vs : List V} {ns : List Bool}, RpAll K Z vs (ns.map PyData.bool) → vs = ns.map V.bl
  | _, [], h => by cases h; rfl
  | _, n :: ns, h => by
    cases h with
    | cons h1 h2 => cases h1; rw [RpAll.of_bools h2]; rfl
/-! ### owned things -/
inductive Ct where
  | li (ds : List D)
  | dk (kvs : List (Key × D))
  | dt (kvs : List (List Key × D))
/-- own things in own things -/
inductive Nt where
  /-- a list of lists -/
  | li (xss : List (List D))
  /-- a dict of dicts of lists -/
  | dd (kvs : List (Key × List (Key × List D)))
inductive Sl where
  | no
  | pu (d : D)
  | ow (pin : Bool) (c : Ct)
  | ll (n : Nt)
  /-- the list at place j of slot k -/
  | al (k j : Nat)
abbrev Rho := List Sl

def KvR {κ : Type} (K : PySem.W.Frag) (Z : Hp) : List (κ × V) → List (κ × D) → Prop := Paired fun (p : κ × V) (q : κ × D) => p.1 = q.1 ∧ Rp K Z p.2 q.2
theorem KvR.mono {κ : Type} {K : PySem.W.Frag} {Z Z' : Hp} {p : List (κ × V)} {q : List (κ × D)} (h : KvR K Z p q) (e : Same Z Z') : KvR K Z' p q :=
  Paired.mapP h fun _ _ r => ⟨r.1, Rp.mono r.2 e⟩
def CtR (K : PySem.W.Frag) (Z : Hp) : HO → Ct → Prop
  | .lst vs, .li ds => RpAll K Z vs ds
  | .dK kvs, .dk eds => KvR K Z kvs eds
  | .dT kvs, .dt eds => KvR K Z kvs eds
  | _, _ => False
theorem CtR.mono {K : PySem.W.Frag} {Z Z' : Hp} {o : HO} {c : Ct} (h : CtR K Z o c) (e : Same Z Z') : CtR K Z' o c := by
  cases o <;> cases c <;> first | exact h.elim | exact RpAll.mono h e | exact KvR.mono h e | exact h
theorem CtR.mu {K : PySem.W.Frag} {Z : Hp} {o : HO} {c : Ct} (h : CtR K Z o c) : Mut (some o) := by
  cases o <;> cases c <;> first | exact h.elim | trivial

/-- the ground of a body: the abstract heap and the still data at its entry, the slots that hold what the caller lent -/
structure Gm where
  H0 : Hp
  Z0 : Hp
  pins : List (Nat × Addr)
def Gm.lent (G : Gm) (a : Addr) : Prop := ∃ i, (i, a) ∈ G.pins

/-! own things in own things -/
def ddF (A : List (Key × Addr × List (Key × Addr))) : List Addr := A.flatMap fun t => t.2.1 :: t.2.2.map (·.2)
inductive NR (P : List V → List D → Prop) (H : Hp) : V → Nt → List Addr → Prop
  | li {a : Addr} {bs : List Addr} {xss : List (List D)} : H a = some (.lst (bs.map V.ref)) → Paired (fun b xs => ∃ vs, H b = some (.lst vs) ∧ P vs xs) bs xss → NR P H (.ref a) (.li xss) (a :: bs)
  | dd {a : Addr} {A : List (Key × Addr × List (Key × Addr))} {kvs : List (Key × List (Key × List D))} : H a = some (.dK (A.map fun t => (t.1, V.ref t.2.1))) →
      Paired (fun (t : Key × Addr × List (Key × Addr)) (m : Key × List (Key × List D)) => t.1 = m.1 ∧ H t.2.1 = some (.dK (t.2.2.map fun q => (q.1, V.ref q.2))) ∧ Paired (fun (q : Key × Addr) (x : Key × List D) => q.1 = x.1 ∧ ∃ vs, H q.2 = some (.lst vs) ∧ P vs x.2) t.2.2 m.2) A kvs → NR P H (.ref a) (.dd kvs) (a :: ddF A)
theorem paired_imp {α β : Type} {P Q : α → β → Prop} : ∀ {l : List α} {m : List β}, Paired P l m → (∀ a b, a ∈ l → P a b → Q a b) → Paired Q l m
  | _, _, .nil, _ => .nil
  | _, _, .cons h r, k => .cons (k _ _ List.mem_cons_self h) (paired_imp r fun a b ha => k a b (List.mem_cons_of_mem _ ha))
theorem paired_ex {α β : Type} {P : α → β → Prop} {a : α} : ∀ {l : List α} {m : List β}, Paired P l m → a ∈ l → ∃ b, P a b
  | _, _, .nil, h => by cases h
  | _, _, .cons h r, k => by
    rcases List.mem_cons.mp k with rfl | k
    · exact ⟨_, h⟩
    · exact paired_ex r k
theorem ddF_in {A : List (Key × Addr × List (Key × Addr))} {t : Key × Addr × List (Key × Addr)} (h : t ∈ A) : t.2.1 ∈ ddF A ∧ ∀ q ∈ t.2.2, q.2 ∈ ddF A :=
  ⟨List.mem_flatMap.mpr ⟨t, h, List.mem_cons_self⟩, fun q hq => List.mem_flatMap.mpr ⟨t, h, List.mem_cons_of_mem _ (List.mem_map.mpr ⟨q, hq, rfl⟩)⟩⟩
theorem NR.mono {P P' : List V → List D → Prop} {H H' : Hp} {v : V} {n : Nt} {fs : List Addr} (h : NR P H v n fs) (hp : ∀ vs xs, P vs xs → P' vs xs) (hh : ∀ b ∈ fs, ∀ o, H b = some o → H' b = some o) : NR P' H' v n fs := by
  cases h with
  | li h1 h2 => exact .li (hh _ List.mem_cons_self _ h1) (paired_imp h2 fun b xs hb ⟨vs, q1, q2⟩ => ⟨vs, hh b (List.mem_cons_of_mem _ hb) _ q1, hp _ _ q2⟩)
  | dd h1 h2 => exact .dd (hh _ List.mem_cons_self _ h1) (paired_imp h2 fun t m ht ⟨q1, q2, q3⟩ => ⟨q1, hh _ (List.mem_cons_of_mem _ (ddF_in ht).1) _ q2, paired_imp q3 fun q x hq ⟨r1, vs, r2, r3⟩ => ⟨r1, vs, hh _ (List.mem_cons_of_mem _ ((ddF_in ht).2 q hq)) _ r2, hp _ _ r3⟩⟩)
theorem NR.live {P : List V → List D → Prop} {H : Hp} {v : V} {n : Nt} {fs : List Addr} (h : NR P H v n fs) {b : Addr} (hb : b ∈ fs) : ∃ o, H b = some o := by
  cases h with
  | li h1 h2 =>
    rcases List.mem_cons.mp hb with rfl | hb
    · exact ⟨_, h1⟩
    · obtain ⟨_, vs, q, _⟩ := paired_ex h2 hb; exact ⟨_, q⟩
  | dd h1 h2 =>
    rcases List.mem_cons.mp hb with rfl | hb
    · exact ⟨_, h1⟩
    · obtain ⟨t, ht, hb⟩ := List.mem_flatMap.mp hb
      obtain ⟨m, q1, q2, q3⟩ := paired_ex h2 ht
      rcases List.mem_cons.mp hb with rfl | hb
      · exact ⟨_, q2⟩
      · obtain ⟨q, hq, rfl⟩ := List.mem_map.mp hb
        obtain ⟨x, _, vs, r, _⟩ := paired_ex q3 hq
        exact ⟨_, r⟩
theorem refs_inj : ∀ {bs cs : List Addr}, bs.map V.ref = cs.map V.ref → bs = cs
  | [], [], _ => rfl
  | [], _ :: _, h => by cases h
  | _ :: _, [], h => by cases h
  | b :: bs, c :: cs, h => by
    rw [List.map_cons, List.map_cons] at h
    obtain ⟨h1, h2⟩ := List.cons.inj h
    cases h1
    rw [refs_inj h2]
theorem krefs_inj : ∀ {bs cs : List (Key × Addr)}, (bs.map fun q => (q.1, V.ref q.2)) = (cs.map fun q => (q.1, V.ref q.2)) → bs = cs
  | [], [], _ => rfl
  | [], _ :: _, h => by cases h
  | _ :: _, [], h => by cases h
  | (k, b) :: bs, (l, c) :: cs, h => by
    rw [List.map_cons, List.map_cons] at h
    obtain ⟨h1, h2⟩ := List.cons.inj h
    cases h1
    rw [krefs_inj h2]
theorem dd_inj {H : Hp} : ∀ {A B : List (Key × Addr × List (Key × Addr))}, (A.map fun t => (t.1, V.ref t.2.1)) = (B.map fun t => (t.1, V.ref t.2.1)) →
    (∀ t ∈ A, H t.2.1 = some (.dK (t.2.2.map fun q => (q.1, V.ref q.2)))) → (∀ t ∈ B, H t.2.1 = some (.dK (t.2.2.map fun q => (q.1, V.ref q.2)))) → A = B
  | [], [], _, _, _ => rfl
  | [], _ :: _, h, _, _ => by cases h
  | _ :: _, [], h, _, _ => by cases h
  | (k, b, m) :: A, (l, c, n) :: B, h, hA, hB => by
    rw [List.map_cons, List.map_cons] at h
    obtain ⟨h1, h2⟩ := List.cons.inj h
    cases h1
    have q1 := hA _ List.mem_cons_self
    have q2 := hB _ List.mem_cons_self
    have q3 := q1.symm.trans q2
    injection q3 with q3
    injection q3 with q3
    have q4 : m = n := krefs_inj q3
    rw [q4, dd_inj h2 (fun t ht => hA t (List.mem_cons_of_mem _ ht)) fun t ht => hB t (List.mem_cons_of_mem _ ht)]
theorem NR.det {P P' : List V → List D → Prop} {H : Hp} {v : V} {n : Nt} {fs fs' : List Addr} (h : NR P H v n fs) (h' : NR P' H v n fs') : fs = fs' := by
  cases h with
  | li h1 h2 =>
    cases h' with
    | li q1 q2 =>
      have := h1.symm.trans q1
      injection this with this
      injection this with this
      rw [refs_inj this]
  | dd h1 h2 =>
    cases h' with
    | dd q1 q2 =>
      have := h1.symm.trans q1
      injection this with this
      injection this with this
      rw [dd_inj this (fun t ht => (paired_ex h2 ht).choose_spec.2.1) fun t ht => (paired_ex q2 ht).choose_spec.2.1]
structure LLat (K : PySem.W.Frag) (G : Gm) (Z : Hp) (ρ : Rho) (σ : St) (H : Hp) (i : Nat) (v : V) (fs : List Addr) (n : Nt) : Prop where
  s : σ[i]? = some (some v)
  r : NR (RpAll K Z) H v n fs
  nd : fs.Nodup
  z : ∀ b ∈ fs, Z b = none
  g : ∀ b ∈ fs, G.H0 b = none
  w : ∀ b ∈ fs, ∀ (j : Nat) p c, ρ[j]? = some (Sl.ow p c) → σ[j]? ≠ some (some (V.ref b))
structure LX (K : PySem.W.Frag) (G : Gm) (Z : Hp) (ρ : Rho) (σ : St) (H : Hp) : Prop where
  ll : ∀ (i : Nat) n, ρ[i]? = some (Sl.ll n) → ∃ v fs, LLat K G Z ρ σ H i v fs n
  one : ∀ (i j : Nat) n m, ρ[i]? = some (Sl.ll n) → ρ[j]? = some (Sl.ll m) → i = j
  al : ∀ (i k j : Nat) n, ρ[i]? = some (Sl.al k j) → ρ[k]? = some (Sl.ll n) → ∀ (a : Addr) (bs : List Addr), σ[k]? = some (some (V.ref a)) → H a = some (.lst (bs.map V.ref)) → ∃ b, bs[j]? = some b ∧ σ[i]? = some (some (V.ref b))
/-- an address of such a thing -/
def InF (ρ : Rho) (σ : St) (H : Hp) (b : Addr) : Prop := ∃ (i : Nat) (n : Nt) (v : V) (fs : List Addr), ρ[i]? = some (Sl.ll n) ∧ σ[i]? = some (some v) ∧ NR (fun _ _ => True) H v n fs ∧ b ∈ fs
theorem LLat.inF {K : PySem.W.Frag} {G : Gm} {Z : Hp} {ρ : Rho} {σ : St} {H : Hp} {i : Nat} {v : V} {fs : List Addr} {n : Nt} (A : LLat K G Z ρ σ H i v fs n) (e : ρ[i]? = some (Sl.ll n)) {b : Addr} (hb : b ∈ fs) : InF ρ σ H b :=
  ⟨i, n, v, fs, e, A.s, A.r.mono (fun _ _ _ => trivial) (fun _ _ _ h => h), hb⟩
theorem LX.frame {K : PySem.W.Frag} {G G' : Gm} {Z Z' : Hp} {ρ ρ' : Rho} {σ σ' : St} {H H' : Hp} (L : LX K G Z ρ σ H)
    (hs : ∀ (i : Nat) n, ρ'[i]? = some (Sl.ll n) → ρ[i]? = some (Sl.ll n) ∧ σ'[i]? = σ[i]?)
    (ha : ∀ (i k j : Nat), ρ'[i]? = some (Sl.al k j) → ρ[i]? = some (Sl.al k j) ∧ σ'[i]? = σ[i]?)
    (hz : Same Z Z')
    (hk : ∀ b o, InF ρ σ H b → Z b = none → G.H0 b = none → (∀ (j : Nat) p c, ρ[j]? = some (Sl.ow p c) → σ[j]? ≠ some (some (V.ref b))) → H b = some o → H' b = some o ∧ Z' b = none ∧ G'.H0 b = none ∧ ∀ (j : Nat) p c, ρ'[j]? = some (Sl.ow p c) → σ'[j]? ≠ some (some (V.ref b))) : LX K G' Z' ρ' σ' H' where
  ll := fun i n e => by
    obtain ⟨e1, e2⟩ := hs i n e
    obtain ⟨v, fs, A⟩ := L.ll i n e1
    have kk : ∀ b ∈ fs, ∀ o, H b = some o → H' b = some o ∧ Z' b = none ∧ G'.H0 b = none ∧ ∀ (j : Nat) p c, ρ'[j]? = some (Sl.ow p c) → σ'[j]? ≠ some (some (V.ref b)) := fun b hb o ho => hk b o (A.inF e1 hb) (A.z b hb) (A.g b hb) (A.w b hb) ho
    refine ⟨v, fs, by rw [e2]; exact A.s, A.r.mono (fun _ _ h => h.mono hz) fun b hb o ho => (kk b hb o ho).1, A.nd, fun b hb => ?_, fun b hb => ?_, fun b hb => ?_⟩
    · obtain ⟨o, ho⟩ := A.r.live hb; exact (kk b hb o ho).2.1
    · obtain ⟨o, ho⟩ := A.r.live hb; exact (kk b hb o ho).2.2.1
    · obtain ⟨o, ho⟩ := A.r.live hb; exact (kk b hb o ho).2.2.2
  one := fun i j n m h1 h2 => L.one i j n m (hs i n h1).1 (hs j m h2).1
  al := fun i k j n h1 h2 a bs h3 h4 => by
    obtain ⟨e1, e2⟩ := ha i k j h1
    obtain ⟨e3, e4⟩ := hs k n h2
    obtain ⟨v, fs, A⟩ := L.ll k n e3
    rw [e4] at h3
    have hva : v = .ref a := by
      have := A.s.symm.trans h3
      cases this; rfl
    subst hva
    have hfa : a ∈ fs := by
      have r := A.r
      cases r <;> exact List.mem_cons_self
    obtain ⟨o, ho⟩ := A.r.live hfa
    have h5 := (hk a o (A.inF e3 hfa) (A.z a hfa) (A.g a hfa) (A.w a hfa) ho).1
    rw [h5] at h4
    cases h4
    rw [e2]
    exact L.al i k j n e1 e3 a bs A.s ho
structure Sim (K : PySem.W.Frag) (G : Gm) (Z : Hp) (ρ : Rho) (σ : St) (H : Hp) : Prop where
  zz : Same G.Z0 Z
  zh : Same Z H
  fr : ∀ a o, G.H0 a = some o → ¬ G.lent a → H a = some o
  nw : ∀ a o, Z a = some o → G.Z0 a = some o ∨ G.H0 a = none
  pu : ∀ (i : Nat) d, ρ[i]? = some (Sl.pu d) → ∃ v, σ[i]? = some (some v) ∧ Rp K Z v d
  ow : ∀ (i : Nat) p c, ρ[i]? = some (Sl.ow p c) → ∃ a o, σ[i]? = some (some (V.ref a)) ∧ H a = some o ∧ CtR K Z o c ∧ Z a = none ∧ (p = true → G.lent a) ∧ (p = false → G.H0 a = none)
  ne : ∀ (i j : Nat) p q c d, i ≠ j → ρ[i]? = some (Sl.ow p c) → ρ[j]? = some (Sl.ow q d) → σ[i]? ≠ σ[j]?
  pin : ∀ (i : Nat) a, (i, a) ∈ G.pins → σ[i]? = some (some (V.ref a)) ∧ ∃ c, ρ[i]? = some (Sl.ow true c)
  len : ρ.length = σ.length
  lx : LX K G Z ρ σ H

/-- the heap grows: new things, some of them still data -/
structure Grow (Z H Z' H' : Hp) : Prop where
  z : Same Z Z'
  zh : Same Z' H'
  h : Same H H'
  n : ∀ a o, Z' a = some o → Z a = some o ∨ H a = none
theorem Grow.refl {Z H : Hp} (h : Same Z H) : Grow Z H Z H := ⟨.refl _, h, .refl _, fun _ _ e => .inl e⟩
theorem same_upd {H : Hp} {p : Addr} (h : H p = none) (o : HO) : Same H (upd H p o) := fun b u q => by rw [upd_ne (ne_of_none q h)]; exact q
theorem none_of_same {Z H : Hp} (e : Same Z H) {p : Addr} (h : H p = none) : Z p = none := e.free h
/-- a new thing that stands still -/
theorem Grow.still {Z H : Hp} (e : Same Z H) {p : Addr} (h : H p = none) (o : HO) : Grow Z H (upd Z p o) (upd H p o) where
  z := same_upd (none_of_same e h) o
  zh := fun b u q => by
    by_cases hb : b = p
    · subst hb; rw [upd_same] at q ⊢; exact q
    · rw [upd_ne hb] at q ⊢; exact e _ _ q
  h := same_upd h o
  n := fun b u q => by
    by_cases hb : b = p
    · subst hb; exact .inr h
    · rw [upd_ne hb] at q; exact .inl q
/-- a new thing that does not -/
theorem Grow.loose {Z H : Hp} (e : Same Z H) {p : Addr} (h : H p = none) (o : HO) : Grow Z H Z (upd H p o) :=
  ⟨.refl _, fun b u q => by rw [upd_ne (ne_of_none (e _ _ q) h)]; exact e _ _ q, same_upd h o, fun _ _ q => .inl q⟩
theorem Grow.trans {Z H Z1 H1 Z2 H2 : Hp} (a : Grow Z H Z1 H1) (b : Grow Z1 H1 Z2 H2) : Grow Z H Z2 H2 :=
  ⟨a.z.trans b.z, b.zh, a.h.trans b.h, fun x o e => (b.n x o e).elim (fun q => a.n x o q) fun q => .inr (a.h.free q)⟩

section
variable {K : PySem.W.Frag} {G : Gm} {Z Z' : Hp} {ρ : Rho} {σ : St} {H H' : Hp}
theorem Sim.lentIn (S : Sim K G Z ρ σ H) {a : Addr} (h : G.lent a) : ∃ (i : Nat) (c : Ct) (o : HO), σ[i]? = some (some (V.ref a)) ∧ ρ[i]? = some (Sl.ow true c) ∧ H a = some o ∧ CtR K Z o c ∧ Z a = none := by
  obtain ⟨i, hi⟩ := h
  obtain ⟨e, c, hc⟩ := S.pin i a hi
  obtain ⟨b, o, e', ho, r, z, _, _⟩ := S.ow i true c hc
  rw [e] at e'
  cases e'
  exact ⟨i, c, o, e, hc, ho, r, z⟩
theorem Sim.freshIn (S : Sim K G Z ρ σ H) {a : Addr} (h : H a = none) : G.H0 a = none := by
  cases e : G.H0 a with
  | none => rfl
  | some o =>
    by_cases l : G.lent a
    · obtain ⟨_, _, _, _, _, q, _⟩ := S.lentIn l
      rw [h] at q; cases q
    · have q := S.fr a o e l
      rw [h] at q; cases q
theorem Sim.grow (S : Sim K G Z ρ σ H) (g : Grow Z H Z' H') : Sim K G Z' ρ σ H' where
  zz := S.zz.trans g.z
  zh := g.zh
  fr := fun a o e l => g.h _ _ (S.fr a o e l)
  nw := fun a o e => (g.n a o e).elim (fun q => S.nw a o q) fun q => .inr (S.freshIn q)
  pu := fun i d e => let ⟨v, q, r⟩ := S.pu i d e; ⟨v, q, r.mono g.z⟩
  ow := fun i p c e => by
    obtain ⟨a, o, q, ho, r, z, l⟩ := S.ow i p c e
    refine ⟨a, o, q, g.h _ _ ho, r.mono g.z, ?_, l⟩
    cases q' : Z' a with
    | none => rfl
    | some u =>
      rcases g.n a u q' with w | w
      · rw [z] at w; cases w
      · rw [ho] at w; cases w
  ne := S.ne
  pin := S.pin
  len := S.len
  lx := S.lx.frame (fun _ _ e => ⟨e, rfl⟩) (fun _ _ _ e => ⟨e, rfl⟩) g.z fun b o _ z gn w ho => ⟨g.h _ _ ho, (by
    cases q' : Z' b with
    | none => rfl
    | some u =>
      rcases g.n b u q' with e | e
      · rw [z] at e; cases e
      · rw [ho] at e; cases e), gn, w⟩
/-- an address of a list of own lists holds something -/
theorem LX.at {K : PySem.W.Frag} {G : Gm} {Z : Hp} {ρ : Rho} {σ : St} {H : Hp} (L : LX K G Z ρ σ H) {b : Addr} (h : InF ρ σ H b) : ∃ i n v fs, ρ[i]? = some (Sl.ll n) ∧ LLat K G Z ρ σ H i v fs n ∧ b ∈ fs := by
  obtain ⟨i, n, v, fs, e1, e2, e3, hb⟩ := h
  obtain ⟨v', fs', A⟩ := L.ll i n e1
  have hv : v' = v := by
    have := A.s.symm.trans e2
    cases this; rfl
  subst hv
  have hf := e3.det A.r
  subst hf
  exact ⟨i, n, v', fs, e1, A, hb⟩
theorem LX.live {K : PySem.W.Frag} {G : Gm} {Z : Hp} {ρ : Rho} {σ : St} {H : Hp} (L : LX K G Z ρ σ H) {b : Addr} (h : InF ρ σ H b) : (∃ o, H b = some o) ∧ Z b = none ∧ G.H0 b = none ∧ ∀ (j : Nat) p c, ρ[j]? = some (Sl.ow p c) → σ[j]? ≠ some (some (V.ref b)) := by
  obtain ⟨i, n, v, fs, e1, A, hb⟩ := L.at h
  exact ⟨A.r.live hb, A.z b hb, A.g b hb, A.w b hb⟩
theorem LX.back {K : PySem.W.Frag} {G : Gm} {Z : Hp} {ρ : Rho} {σ : St} {H H' : Hp} (L : LX K G Z ρ σ H) (hk : ∀ b o, InF ρ σ H b → H b = some o → H' b = some o) {b : Addr} (h : InF ρ σ H' b) : InF ρ σ H b := by
  obtain ⟨i, n, v, fs, e1, e2, e3, hb⟩ := h
  obtain ⟨v', fs', A⟩ := L.ll i n e1
  have hv : v' = v := by
    have := A.s.symm.trans e2
    cases this; rfl
  subst hv
  have r : NR (fun _ _ => True) H' v' n fs' := A.r.mono (fun _ _ _ => trivial) fun b hb o ho => hk b o (A.inF e1 hb) ho
  have hf := e3.det r
  subst hf
  exact A.inF e1 hb
/-- a list of lists -/
structure LLa (K : PySem.W.Frag) (G : Gm) (Z : Hp) (ρ : Rho) (σ : St) (H : Hp) (i : Nat) (a : Addr) (bs : List Addr) (xss : List (List D)) : Prop where
  s : σ[i]? = some (some (V.ref a))
  h : H a = some (.lst (bs.map V.ref))
  p : Paired (fun b xs => ∃ vs, H b = some (.lst vs) ∧ RpAll K Z vs xs) bs xss
  nd : (a :: bs).Nodup
  z : ∀ b ∈ a :: bs, Z b = none
  g : ∀ b ∈ a :: bs, G.H0 b = none
  w : ∀ b ∈ a :: bs, ∀ (j : Nat) p c, ρ[j]? = some (Sl.ow p c) → σ[j]? ≠ some (some (V.ref b))
theorem LLa.at {K : PySem.W.Frag} {G : Gm} {Z : Hp} {ρ : Rho} {σ : St} {H : Hp} {i : Nat} {a : Addr} {bs : List Addr} {xss : List (List D)} (A : LLa K G Z ρ σ H i a bs xss) : LLat K G Z ρ σ H i (.ref a) (a :: bs) (.li xss) := ⟨A.s, .li A.h A.p, A.nd, A.z, A.g, A.w⟩
theorem LX.lla {K : PySem.W.Frag} {G : Gm} {Z : Hp} {ρ : Rho} {σ : St} {H : Hp} (L : LX K G Z ρ σ H) {i : Nat} {xss : List (List D)} (e : ρ[i]? = some (Sl.ll (.li xss))) : ∃ a bs, LLa K G Z ρ σ H i a bs xss := by
  obtain ⟨v, fs, A⟩ := L.ll i _ e
  obtain ⟨s, r, nd, z, g, w⟩ := A
  cases r with
  | li h1 h2 => exact ⟨_, _, s, h1, h2, nd, z, g, w⟩
/-- a new address: no slot has it -/
def NewA (ρ : Rho) (σ : St) (H : Hp) (a : Addr) : Prop := (∀ (i : Nat) p c, ρ[i]? = some (Sl.ow p c) → σ[i]? ≠ some (some (V.ref a))) ∧ ¬ InF ρ σ H a
theorem Sim.newA {K : PySem.W.Frag} {G : Gm} {Z : Hp} {ρ : Rho} {σ : St} {H : Hp} (S : Sim K G Z ρ σ H) {a : Addr} (h : H a = none) : NewA ρ σ H a := by
  refine ⟨fun i p c e q => ?_, fun q => ?_⟩
  · obtain ⟨a', o', q', ho', _⟩ := S.ow i p c e
    rw [q] at q'
    cases q'
    rw [h] at ho'
    cases ho'
  · obtain ⟨o, ho⟩ := (S.lx.live q).1
    rw [h] at ho
    cases ho
theorem Sim.fresh (S : Sim K G Z ρ σ H) {p : Addr} (h : H p = none) : Z p = none := none_of_same S.zh h
end

/-! ### results -/
structure Xn where
  cls : Str
  told : List (Str × D)
inductive M (α : Type) where
  | st
  | ok (a : α) (ρ : Rho)
  | ex (x : Xn) (ρ : Rho)
def M.bind {α β : Type} (m : M α) (f : α → Rho → M β) : M β := match m with
  | .st => .st
  | .ok a ρ => f a ρ
  | .ex x ρ => .ex x ρ
@[simp] theorem M.bind_ok {α β : Type} (a : α) (ρ : Rho) (f : α → Rho → M β) : (M.ok a ρ).bind f = f a ρ := rfl
@[simp] theorem M.bind_st {α β : Type} (f : α → Rho → M β) : (M.st : M α).bind f = .st := rfl
@[simp] theorem M.bind_ex {α β : Type} (x : Xn) (ρ : Rho) (f : α → Rho → M β) : (M.ex x ρ : M α).bind f = .ex x ρ := rfl
abbrev O (α : Type) := Rho → M α
inductive Va where
  | pu (d : D)
  | rf (i : Nat)
inductive Rs where
  | pu (d : D)
  | nw (c : Ct)
/-- what is wanted of an exception -/
abbrev Wish := Xn → Rho → Hp → St → Hp → Prop
abbrev Rel (α β : Type) := Hp → Rho → St → Hp → β → α → Prop

section
variable (K : PySem.W.Frag) (G : Gm) (B : Wish)
def Post {α β : Type} (R : Rel α β) (σ : St) (Z : Hp) (m : M α) (Q : β → Hp → Prop) : Prop := match m with
  | .st => False
  | .ok a ρ' => ∀ v Z' H', Same Z Z' → Sim K G Z' ρ' σ H' → R Z' ρ' σ H' v a → Q v H'
  | .ex x ρ' => ∀ Z' H', Same Z Z' → Sim K G Z' ρ' σ H' → B x ρ' Z' σ H'
def Run {α β : Type} (R : Rel α β) (o : O α) : St → Hp → (β → Hp → Prop) → Prop := fun σ H Q => ∃ Z ρ, Sim K G Z ρ σ H ∧ Post K G B R σ Z (o ρ) Q
def VaR : Rel Va V := fun Z ρ σ H v a => match a with
  | .pu d => Rp K Z v d
  | .rf i => σ[i]? = some (some v)
def RsR : Rel Rs V := fun Z ρ σ H v r => match r with
  | .pu d => Rp K Z v d
  | .nw c => ∃ a o, v = V.ref a ∧ H a = some o ∧ CtR K Z o c ∧ Z a = none ∧ G.H0 a = none ∧ NewA ρ σ H a
def BoR : Rel Bool Bool := fun _ _ _ _ b a => b = a
def VasR : Rel (List Va) (List V) := fun Z ρ σ H vs as => Paired (VaR K Z ρ σ H) vs as
end
theorem Post.bind {K : PySem.W.Frag} {G : Gm} {B : Wish} {α α' β β' : Type} {R : Rel α β} {R' : Rel α' β'} {σ : St} {Z : Hp} {m : M α} {f : α → Rho → M α'} {Q : β' → Hp → Prop} {C : β → Hp → Prop} (h : Post K G B R' σ Z (m.bind f) Q)
    (k : ∀ x a ρ1 Z1 H1, Same Z Z1 → Sim K G Z1 ρ1 σ H1 → R Z1 ρ1 σ H1 x a → Post K G B R' σ Z1 (f a ρ1) Q → C x H1) : Post K G B R σ Z m C := by
  cases m with
  | st => exact h
  | ex x ρ => exact h
  | ok a ρ1 =>
    intro v Z' H' e S r
    refine k v a ρ1 Z' H' e S r ?_
    have h' : Post K G B R' σ Z (f a ρ1) Q := h
    cases q : f a ρ1 with
    | st => rw [q] at h'; exact h'
    | ok b ρ2 => rw [q] at h'; exact fun v2 Z2 H2 e2 => h' v2 Z2 H2 (e.trans e2)
    | ex b ρ2 => rw [q] at h'; exact fun Z2 H2 e2 => h' Z2 H2 (e.trans e2)

/-! ### judgements -/
section
variable (X : Cx) (G : Gm) (B : Wish)
def ED (e : Expr) (o : O Va) : Prop := PE X e (Run X.K G B (VaR X.K) o)
def RD (e : Expr) (o : O Rs) : Prop := PE X e (Run X.K G B (RsR X.K G) o)
def TD (e : Expr) (o : O Bool) : Prop := PT X e (Run X.K G B BoR o)
def AD (es : List Expr) (o : O (List Va)) : Prop := PA X es (Run X.K G B (VasR X.K) o)
end
theorem pe_imp {X : Cx} {e : Expr} {t t' : TE} (h : PE X e t) (k : ∀ σ H Q, t' σ H Q → t σ H Q) : PE X e t' := ⟨fun pins s σ H Q I w => h.run pins s σ H Q I (k _ _ _ w)⟩
theorem pt_imp {X : Cx} {e : Expr} {t t' : TT} (h : PT X e t) (k : ∀ σ H Q, t' σ H Q → t σ H Q) : PT X e t' := ⟨fun pins s σ H Q I w => h.run pins s σ H Q I (k _ _ _ w)⟩
theorem pa_imp {X : Cx} {e : List Expr} {t t' : TA} (h : PA X e t) (k : ∀ σ H Q, t' σ H Q → t σ H Q) : PA X e t' := ⟨fun pos pins s σ H Q I w => h.run pos pins s σ H Q I (k _ _ _ w)⟩
theorem ps_imp {X : Cx} {e : Stmt} {t t' : TS} (h : PS X e t) (k : ∀ D σ H, t' D σ H → t D σ H) : PS X e t' := ⟨fun pins s σ H D I w => h.run pins s σ H D I (k _ _ _ w)⟩
theorem pss_imp {X : Cx} {e : List Stmt} {t t' : TS} (h : PSs X e t) (k : ∀ D σ H, t' D σ H → t D σ H) : PSs X e t' := ⟨fun pins s σ H D I w => h.run pins s σ H D I (k _ _ _ w)⟩
theorem pe_alt {X : Cx} {e : Expr} {t t' : TE} (h : PE X e t) (h' : PE X e t') : PE X e (fun σ H Q => t σ H Q ∨ t' σ H Q) := ⟨fun pins s σ H Q I w => w.elim (h.run pins s σ H Q I) (h'.run pins s σ H Q I)⟩
end Ow
namespace Ow
open PySem L2
theorem paired_both {α β : Type} {P : α → β → Prop} : ∀ {l : List α} {m : List β} {j : Nat} {a : α} {b : β}, Paired P l m → l[j]? = some a → m[j]? = some b → P a b
  | _, _, _, _, _, .nil, e, _ => by simp at e
  | _, _, 0, _, _, .cons h _, e, f => by simp at e f; subst e; subst f; exact h
  | _, _, j + 1, _, _, .cons _ r, e, f => paired_both (j := j) r (by simpa using e) (by simpa using f)
/-! ### what can be read now -/
def Rdb (K : PySem.W.Frag) (Z H : Hp) (v : V) (d : D) : Prop := Rp K Z v d ∨ ∃ a vs ds, v = .ref a ∧ d = .list ds ∧ H a = some (.lst vs) ∧ RpAll K Z vs ds
def rdV (ρ : Rho) (a : Va) : Option D := match a with
  | .pu d => some d
  | .rf i => match ρ[i]? with
    | some (.ow _ (.li ds)) => some (.list ds)
    | some (.al k j) => match ρ[k]? with
      | some (.ll (.li xss)) => (xss[j]?).map PyData.list
      | _ => none
    | _ => none
@[simp] theorem rdV_pu (ρ : Rho) (d : D) : rdV ρ (.pu d) = some d := rfl
section
variable {K : PySem.W.Frag} {G : Gm} {B : Wish} {Z Z' : Hp} {ρ ρ' : Rho} {σ : St} {H H' : Hp} {v : V} {a : Va} {d : D} {i : Int} {x : Str} {b : Bool} {ds : List D}
theorem VaR.mono (h : VaR K Z ρ σ H v a) (e : Same Z Z') : VaR K Z' ρ' σ H' v a := by
  cases a with
  | pu d => exact Rp.mono h e
  | rf i => exact h
theorem Sim.rdb (S : Sim K G Z ρ σ H) (h : VaR K Z ρ' σ H' v a) (e : rdV ρ a = some d) : Rdb K Z H v d := by
  cases a with
  | pu d' => cases e; exact .inl h
  | rf i =>
    unfold rdV at e
    split at e
    · cases ‹Va.rf i = _›
    · rename_i j h1
      cases h1
      split at e
      · rename_i p ds hr
        cases e
        obtain ⟨a, o, q, ho, r, _⟩ := S.ow i p _ hr
        have h' : σ[i]? = some (some v) := h
        rw [q] at h'
        cases h'
        cases o with
        | lst vs => exact .inr ⟨a, vs, ds, rfl, rfl, ho, r⟩
        | _ => exact r.elim
      · rename_i k m hr
        split at e
        · rename_i xss hk
          cases hx : xss[m]? with
          | none => rw [hx] at e; cases e
          | some xs =>
            rw [hx] at e
            cases e
            obtain ⟨a, bs, A⟩ := S.lx.lla hk
            obtain ⟨b, h1, h2⟩ := S.lx.al _ k m _ hr hk a bs A.s A.h
            have h' : σ[i]? = some (some v) := h
            rw [h2] at h'
            cases h'
            obtain ⟨vs, h3, h4⟩ := paired_both A.p h1 hx
            exact .inr ⟨b, vs, xs, rfl, rfl, h3, h4⟩
        · cases e
      · cases e
theorem Rdb.int (h : Rdb K Z H v (.int i)) : v = .int i := by
  rcases h with h | ⟨_, _, _, _, e, _⟩
  · cases h; rfl
  · cases e
theorem Rdb.str (h : Rdb K Z H v (.str x)) : v = .str x := by
  rcases h with h | ⟨_, _, _, _, e, _⟩
  · cases h; rfl
  · cases e
theorem Rdb.bl (h : Rdb K Z H v (.bool b)) : v = .bl b := by
  rcases h with h | ⟨_, _, _, _, e, _⟩
  · cases h; rfl
  · cases e
theorem Rdb.non (h : Rdb K Z H v .none) : v = .non := by
  rcases h with h | ⟨_, _, _, _, e, _⟩
  · cases h; rfl
  · cases e
theorem Rdb.list (h : Rdb K Z H v (.list ds)) (e : Same Z H) : ∃ a vs, v = .ref a ∧ H a = some (.lst vs) ∧ RpAll K Z vs ds := by
  rcases h with h | ⟨a, vs, ds', h1, h2, h3, h4⟩
  · cases h with
    | lst h1 h2 => exact ⟨_, _, rfl, e _ _ h1, h2⟩
  · cases h2; exact ⟨a, vs, h1, h3, h4⟩
theorem Rdb.tup (h : Rdb K Z H v (.tuple ds)) (e : Same Z H) : ∃ a vs, v = .ref a ∧ H a = some (.tup vs) ∧ RpAll K Z vs ds ∧ Rp K Z v (.tuple ds) := by
  rcases h with h | ⟨_, _, _, _, e, _⟩
  · cases h with
    | tup h1 h2 => exact ⟨_, _, rfl, e _ _ h1, h2, .tup h1 h2⟩
  · cases e
theorem Rdb.scr (h : Rdb K Z H v (scr ds)) (e : Same Z H) : ∃ a vs, v = .ref a ∧ SqL K H a vs ∧ RpAll K Z vs ds := by
  rcases h with h | ⟨_, _, _, _, e, _⟩
  · cases h with
    | frz h1 h2 => exact ⟨_, _, rfl, sqL_mono e h1, h2⟩
  · cases e
theorem Rdb.kon (h : Rdb K Z H v (kon ds)) (e : Same Z H) : ∃ a vs, v = .ref a ∧ SqT K H a vs ∧ RpAll K Z vs ds := by
  rcases h with h | ⟨_, _, _, _, e, _⟩
  · cases h with
    | kon h1 h2 => exact ⟨_, _, rfl, sqT_mono e h1, h2⟩
  · cases e
/-- data without the script's word -/
theorem Rdb.dp (h : Rdb K Z H v d) (e : Same Z H) (c : d.canLay0 = true) : Dp K H v d := by
  rcases h with h | ⟨a, vs, ds, rfl, rfl, h3, h4⟩
  · exact (h.mono e).dp c
  · exact .lst (SqL.of h3) ((h4.mono e).dp (by simpa [PyData.canLay0] using c))

/-! ### how a rule's answer goes back -/
def ResG (K : PySem.W.Frag) (Z' H H' : Hp) (v : V) (r : Rs) : Prop := match r with
  | .pu d => Rp K Z' v d
  | .nw c => ∃ a o, v = V.ref a ∧ H a = none ∧ Z' a = none ∧ H' a = some o ∧ CtR K Z' o c
theorem Sim.res (S : Sim K G Z ρ σ H) (hs : Same H H') {r : Rs} (h : ResG K Z' H H' v r) : RsR K G Z' ρ σ H' v r := by
  cases r with
  | pu d => exact h
  | nw c =>
    obtain ⟨a, o, e, n, z, ho, cr⟩ := h
    exact ⟨a, o, e, ho, cr, z, S.freshIn n, (S.newA n).1, fun q => (S.newA n).2 (S.lx.back (fun b o _ h => hs _ _ h) q)⟩
theorem Post.fin {r : Rs} {Q : VK} (p : Post K G B (RsR K G) σ Z (.ok r ρ) Q) (S : Sim K G Z ρ σ H) (g : Grow Z H Z' H') (h : ResG K Z' H H' v r) : Q v H' :=
  p v Z' H' g.z (S.grow g) (S.res g.h h)
theorem Post.finP {d : D} {Q : VK} (p : Post K G B (fun Z ρ σ H v d => Rp K Z v d) σ Z (.ok d ρ) Q) (S : Sim K G Z ρ σ H) (g : Grow Z H Z' H') (h : Rp K Z' v d) : Q v H' :=
  p v Z' H' g.z (S.grow g) h
/-- a new list that nobody changes any more -/
theorem Sim.freezeNew (S : Sim K G Z ρ σ H) {p : Addr} {vs : List V} (h : H p = some (.lst vs)) (z : Z p = none) (n : G.H0 p = none) (hn : NewA ρ σ H p) :
    Sim K G (upd Z p (.lst vs)) ρ σ H where
  zz := S.zz.trans (same_upd z _)
  zh := fun b u q => by
    by_cases hb : b = p
    · subst hb; rw [upd_same] at q; cases q; exact h
    · rw [upd_ne hb] at q; exact S.zh _ _ q
  fr := S.fr
  nw := fun b u q => by
    by_cases hb : b = p
    · subst hb; exact .inr n
    · rw [upd_ne hb] at q; exact S.nw _ _ q
  pu := fun i d e => let ⟨v, q, r⟩ := S.pu i d e; ⟨v, q, r.mono (same_upd z _)⟩
  ow := fun i q c e => by
    obtain ⟨a, o, q', ho, r, z', l⟩ := S.ow i q c e
    refine ⟨a, o, q', ho, r.mono (same_upd z _), ?_, l⟩
    rw [upd_ne]
    · exact z'
    · intro e'; subst e'; exact hn.1 i q c e q'
  ne := S.ne
  pin := S.pin
  len := S.len
  lx := S.lx.frame (fun _ _ e => ⟨e, rfl⟩) (fun _ _ _ e => ⟨e, rfl⟩) (same_upd z _) fun b o f z' gn w ho => ⟨ho, (by rw [upd_ne]; exact z'; intro e; subst e; exact hn.2 f), gn, w⟩
end
def PuR (K : PySem.W.Frag) : Rel D V := fun Z ρ σ H v d => Rp K Z v d
def PD (X : Cx) (G : Gm) (B : Wish) (e : Expr) (o : O D) : Prop := PE X e (Run X.K G B (PuR X.K) o)

/-! ### from one kind of answer to another -/
def oPu (o : O D) : O Va := fun ρ => (o ρ).bind fun d ρ1 => .ok (.pu d) ρ1
def oRes (o : O D) : O Rs := fun ρ => (o ρ).bind fun d ρ1 => .ok (.pu d) ρ1
def frz1 (r : Rs) (ρ : Rho) : M D := match r with
  | .pu d => .ok d ρ
  | .nw (.li ds) => .ok (.list ds) ρ
  | _ => .st
def oFrz (o : O Rs) : O D := fun ρ => (o ρ).bind frz1
def keep1 (a : Va) (ρ : Rho) : M D := match a with
  | .pu d => .ok d ρ
  | .rf i => match ρ[i]? with
    | some (.ow false (.li ds)) => .ok (.list ds) (ρ.set i (.pu (.list ds)))
    | _ => .st
def oKeep (o : O Va) : O D := fun ρ => (o ρ).bind keep1
@[simp] theorem frz1_pu (d : D) (ρ : Rho) : frz1 (.pu d) ρ = .ok d ρ := rfl
@[simp] theorem frz1_li (ds : List D) (ρ : Rho) : frz1 (.nw (.li ds)) ρ = .ok (.list ds) ρ := rfl
@[simp] theorem keep1_pu (d : D) (ρ : Rho) : keep1 (.pu d) ρ = .ok d ρ := rfl
section
variable {X : Cx} {G : Gm} {B : Wish} {e : Expr}
theorem run_imp {K : PySem.W.Frag} {α α' β β' : Type} {R : Rel α β} {R' : Rel α' β'} {o : O α} {f : α → Rho → M α'} {σ : St} {H : Hp} {Q : β' → Hp → Prop} {C : β → Hp → Prop} (h : Run K G B R' (fun ρ => (o ρ).bind f) σ H Q)
    (k : ∀ x a ρ1 Z1 H1, Sim K G Z1 ρ1 σ H1 → R Z1 ρ1 σ H1 x a → Post K G B R' σ Z1 (f a ρ1) Q → C x H1) : Run K G B R o σ H C := by
  obtain ⟨Z, ρ, S, p⟩ := h
  exact ⟨Z, ρ, S, Post.bind p fun x a ρ1 Z1 H1 _ S1 r p1 => k x a ρ1 Z1 H1 S1 r p1⟩
theorem ed_pd {o : O D} (h : PD X G B e o) : ED X G B e (oPu o) := pe_imp h fun σ H Q w => run_imp w fun x a ρ1 Z1 H1 S1 r p1 => p1 x Z1 H1 (.refl _) S1 r
theorem rd_pd {o : O D} (h : PD X G B e o) : RD X G B e (oRes o) := pe_imp h fun σ H Q w => run_imp w fun x a ρ1 Z1 H1 S1 r p1 => p1 x Z1 H1 (.refl _) S1 r
theorem pd_rd {o : O Rs} (h : RD X G B e o) : PD X G B e (oFrz o) := pe_imp h fun σ H Q w => run_imp w fun x r ρ1 Z1 H1 S1 q p1 => by
  cases r with
  | pu d => exact p1 x Z1 H1 (.refl _) S1 q
  | nw c =>
    cases c with
    | li ds =>
      obtain ⟨a, ho, ev, h1, cr, z, n, hn⟩ := q
      cases ho with
      | lst vs =>
        refine p1 x (upd Z1 a (.lst vs)) H1 (same_upd z _) (S1.freezeNew h1 z n hn) ?_
        subst ev
        exact .lst upd_same (RpAll.mono cr (same_upd z _))
      | _ => exact cr.elim
    | dk kvs => exact p1.elim
    | dt kvs => exact p1.elim
theorem Sim.freezeSlot {K : PySem.W.Frag} {Z : Hp} {ρ : Rho} {σ : St} {H : Hp} {i : Nat} {ds : List D} (S : Sim K G Z ρ σ H) (h : ρ[i]? = some (Sl.ow false (.li ds))) :
    ∃ a vs, σ[i]? = some (some (V.ref a)) ∧ H a = some (.lst vs) ∧ RpAll K Z vs ds ∧ Z a = none ∧ Sim K G (upd Z a (.lst vs)) (ρ.set i (.pu (.list ds))) σ H := by
  obtain ⟨a, o, q, ho, r, z, _, n⟩ := S.ow i _ _ h
  cases o with
  | lst vs =>
    have hi : i < ρ.length := by
      have := List.getElem?_eq_some_iff.mp h
      exact this.1
    have e1 : Same Z (upd Z a (.lst vs)) := same_upd z _
    refine ⟨a, vs, q, ho, r, z, ⟨S.zz.trans e1, fun b u q' => ?_, S.fr, fun b u q' => ?_, fun j d e => ?_, fun j p c e => ?_, fun j k p q' c d hjk e1 e2 => ?_, fun j b hj => ?_, by rw [List.length_set]; exact S.len, ?_⟩⟩
    · by_cases hb : b = a
      · subst hb; rw [upd_same] at q'; cases q'; exact ho
      · rw [upd_ne hb] at q'; exact S.zh _ _ q'
    · by_cases hb : b = a
      · subst hb; exact .inr (n rfl)
      · rw [upd_ne hb] at q'; exact S.nw _ _ q'
    · by_cases hj : j = i
      · subst hj
        rw [List.getElem?_set_self hi] at e
        cases e
        exact ⟨_, q, .lst upd_same (RpAll.mono r e1)⟩
      · rw [List.getElem?_set_ne (Ne.symm hj)] at e
        obtain ⟨v, q1, r1⟩ := S.pu j d e
        exact ⟨v, q1, r1.mono e1⟩
    · by_cases hj : j = i
      · subst hj
        rw [List.getElem?_set_self hi] at e
        cases e
      · rw [List.getElem?_set_ne (Ne.symm hj)] at e
        obtain ⟨a', o', q1, h1, r1, z1, l1⟩ := S.ow j p c e
        refine ⟨a', o', q1, h1, r1.mono e1, ?_, l1⟩
        rw [upd_ne]
        · exact z1
        · intro e'
          subst e'
          exact S.ne j i _ _ _ _ hj e h (q1.trans q.symm)
    · have hj : j ≠ i := fun e => by subst e; rw [List.getElem?_set_self hi] at e1; cases e1
      have hk : k ≠ i := fun e => by subst e; rw [List.getElem?_set_self hi] at e2; cases e2
      rw [List.getElem?_set_ne (Ne.symm hj)] at e1
      rw [List.getElem?_set_ne (Ne.symm hk)] at e2
      exact S.ne j k p q' c d hjk e1 e2
    · obtain ⟨q1, c, hc⟩ := S.pin j b hj
      refine ⟨q1, c, ?_⟩
      rw [List.getElem?_set_ne]
      · exact hc
      · intro e; subst e; rw [h] at hc; cases hc
    · refine S.lx.frame (fun j xss e => ?_) (fun j k m e => ?_) e1 fun b o f z' gn w ho' => ⟨ho', (by rw [upd_ne]; exact z'; intro e; subst e; exact w i _ _ h q), gn, fun j p c e => ?_⟩
      · by_cases hj : j = i
        · subst hj; rw [List.getElem?_set_self hi] at e; cases e
        · rw [List.getElem?_set_ne (Ne.symm hj)] at e; exact ⟨e, rfl⟩
      · by_cases hj : j = i
        · subst hj; rw [List.getElem?_set_self hi] at e; cases e
        · rw [List.getElem?_set_ne (Ne.symm hj)] at e; exact ⟨e, rfl⟩
      · by_cases hj : j = i
        · subst hj; rw [List.getElem?_set_self hi] at e; cases e
        · rw [List.getElem?_set_ne (Ne.symm hj)] at e; exact w j p c e
  | _ => exact r.elim
theorem pd_ed {o : O Va} (h : ED X G B e o) : PD X G B e (oKeep o) := pe_imp h fun σ H Q w => run_imp w fun x a ρ1 Z1 H1 S1 q p1 => by
  cases a with
  | pu d => exact p1 x Z1 H1 (.refl _) S1 q
  | rf i =>
    have p2 : Post X.K G B (PuR X.K) σ Z1 (keep1 (.rf i) ρ1) Q := p1
    unfold keep1 at p2
    split at p2
    · cases ‹Va.rf i = _›
    · rename_i j hj
      cases hj
      split at p2
      · rename_i ds hr
        obtain ⟨a, vs, q1, h1, r1, z1, S2⟩ := S1.freezeSlot hr
        have q' : σ[i]? = some (some x) := q
        rw [q1] at q'
        cases q'
        exact p2 _ _ H1 (same_upd z1 _) S2 (.lst upd_same (RpAll.mono r1 (same_upd z1 _)))
      · exact p2.elim
end
/-! ### names, constants -/
def oVar (i : Nat) : O Va := fun ρ => match ρ[i]? with
  | some (.pu d) => .ok (.pu d) ρ
  | some (.ow _ _) => .ok (.rf i) ρ
  | some (.al k _) => match ρ[k]? with
    | some (.ll (.li _)) => .ok (.rf i) ρ
    | _ => .st
  | _ => .st
def oC (d : D) : O D := fun ρ => .ok d ρ
section
variable {X : Cx} {G : Gm} {B : Wish} {e : Expr} {pos : Pos} {j : Nat}
theorem ed_var (i : Nat) {x : Str} (hN : X.N[i]? = some x := by rfl) (hv : Vis X.env.scope x := by first | exact Or.inl rfl | exact Or.inr (Or.inl rfl) | exact Or.inr (Or.inr rfl)) (hd : (x == ("__debug__" : Str)) = false := by decide)
    (hcd : (x == ("__classdict__" : Str)) = false := by decide) : ED X G B (.Name x pos) (oVar i) := by
  refine pe_imp (pe_var (i := i) hN hv hd hcd) ?_
  rintro σ H Q ⟨Z, ρ, S, p⟩
  unfold oVar at p
  split at p
  · rename_i d h
    obtain ⟨v, q, r⟩ := S.pu i d h
    exact ⟨v, q, p v Z H (.refl _) S r⟩
  · rename_i b c h
    obtain ⟨a, o, q, _⟩ := S.ow i b c h
    exact ⟨_, q, p _ Z H (.refl _) S q⟩
  · rename_i k m hr
    split at p
    · rename_i xss hk
      obtain ⟨a, bs, A⟩ := S.lx.lla hk
      obtain ⟨b, _, h2⟩ := S.lx.al _ k m _ hr hk a bs A.s A.h
      exact ⟨_, h2, p _ Z H (.refl _) S h2⟩
    · exact p.elim
  · exact p.elim
theorem pd_const {v : V} {d : D} (h : PE X e (tC v)) (r : ∀ Z, Rp X.K Z v d) : PD X G B e (oC d) := pe_imp h fun σ H Q ⟨Z, ρ, S, p⟩ => p v Z H (.refl _) S (r Z)
theorem pd_int {i : Int} {k} : PD X G B (.Constant (.int i) k pos) (oC (.int i)) := pd_const pe_int fun _ => .int i
theorem pd_bool {i : Bool} {k} : PD X G B (.Constant (.bool i) k pos) (oC (.bool i)) := pd_const pe_bl fun _ => .bl i
theorem pd_none {k} : PD X G B (.Constant .none k pos) (oC .none) := pd_const pe_non fun _ => .non
theorem pd_str {x : Str} {k} : PD X G B (.Constant (.str x) k pos) (oC (.str x)) := pd_const pe_str fun _ => .str x
end
/-! ### operators -/
/-- a rule of two values, by data -/
def BinS (K : PySem.W.Frag) (r : R2) (f : D → D → Option Rs) : Prop := ∀ (x y : V) (dx dy : D) (R : Rs) (Z H : Hp) (Q : VK), Same Z H → Rdb K Z H x dx → Rdb K Z H y dy → f dx dy = some R →
  (∀ v Z' H', Grow Z H Z' H' → ResG K Z' H H' v R → Q v H') → r x y H Q
def bin1 (f : D → D → Option Rs) (a b : Va) (ρ : Rho) : M Rs := match rdV ρ a, rdV ρ b with
  | some dx, some dy => match f dx dy with
    | some r => .ok r ρ
    | none => .st
  | _, _ => .st
@[simp] theorem bin1_pu (f : D → D → Option Rs) (a b : D) (ρ : Rho) : bin1 f (.pu a) (.pu b) ρ = match f a b with | some r => .ok r ρ | none => .st := rfl
def oBin (f : D → D → Option Rs) (oa ob : O Va) : O Rs := fun ρ => (oa ρ).bind fun a ρ1 => (ob ρ1).bind fun b ρ2 => bin1 f a b ρ2
section
variable {X : Cx} {G : Gm} {B : Wish} {a b : Expr} {pos : Pos} {oa ob : O Va}
theorem run_bin {K : PySem.W.Frag} {r : R2} {f : D → D → Option Rs} (hf : BinS K r f) {σ : St} {H : Hp} {Q : VK} (w : Run K G B (RsR K G) (oBin f oa ob) σ H Q) : tOp r (Run K G B (VaR K) oa) (Run K G B (VaR K) ob) σ H Q := by
  obtain ⟨Z, ρ, S, p⟩ := w
  refine ⟨Z, ρ, S, Post.bind p fun x a ρ1 Z1 H1 e1 S1 r1 p1 => ⟨Z1, ρ1, S1, Post.bind p1 fun y b ρ2 Z2 H2 e2 S2 r2 p2 => ?_⟩⟩
  unfold bin1 at p2
  split at p2
  · rename_i dx dy hx hy
    split at p2
    · rename_i R hR
      exact hf x y dx dy R Z2 H2 Q S2.zh (S2.rdb (r1.mono (ρ' := ρ2) (H' := H2) e2) hx) (S2.rdb r2 hy) hR fun v Z' H' g h => p2.fin S2 g h
    · exact p2.elim
  · exact p2.elim
theorem rd_bin {op : Operator} {r : R2} {f : D → D → Option Rs} (ho : OpR X (binaryOp op) r) (hf : BinS X.K r f) (ha : ED X G B a oa) (hb : ED X G B b ob) : RD X G B (.BinOp a op b pos) (oBin f oa ob) :=
  pe_imp (pe_op ho ha hb) fun _ _ _ w => run_bin hf w
theorem rd_cmp {op : CmpOp} {r : R2} {f : D → D → Option Rs} (ho : OpR X (compareOp op) r) (hf : BinS X.K r f) (hm : behindInMarks op b = false) (ha : ED X G B a oa) (hb : ED X G B b ob) : RD X G B (.Compare a [op] [b] pos) (oBin f oa ob) :=
  pe_imp (pe_cmpR ho ha hb hm) fun _ _ _ w => run_bin hf w
end
end Ow
namespace Ow
open PySem L2
/-- products, quotients: what the model's rules ask of the sizes -/
def mulOk (i j : Int) : Bool := decide (i.natAbs < 18446744073709551616 ∨ j.natAbs < 18446744073709551616)
def divOk (i j : Int) : Bool := decide (0 < j ∧ j.natAbs.log2 < 9000)
theorem mulOk_c {i j : Int} (h : mulOk i j = true) : CMul i j := by
  unfold mulOk at h
  have q := of_decide_eq_true h
  unfold CMul
  omega
theorem divOk_c {i j : Int} (h : divOk i j = true) : CDivW i j := by
  unfold divOk at h
  have q := of_decide_eq_true h
  exact q
/-- + -/
def fAdd : D → D → Option Rs
  | .int i, .int j => some (.pu (.int (i + j)))
  | .str i, .str j => if i.length + j.length ≤ 16000000 then some (.pu (.str (i ++ j))) else none
  | .list xs, .list ys => if xs.length + ys.length ≤ 16000000 then some (.nw (.li (xs ++ ys))) else none
  | .tuple xs, .tuple ys => if xs.length + ys.length ≤ 16000000 then some (.pu (.tuple (xs ++ ys))) else none
  | _, _ => none
def fInt2 (g : Int → Int → Int) : D → D → Option Rs
  | .int i, .int j => some (.pu (.int (g i j)))
  | _, _ => none
def fSub := fInt2 fun i j => i - j
def fAnd := fInt2 Builtin.bitAnd
def fOr := fInt2 Builtin.bitOr
def fXor := fInt2 Builtin.bitXor
def fMul : D → D → Option Rs
  | .int i, .int j => if mulOk i j then some (.pu (.int (i * j))) else none
  | .list xs, .int k => if 0 ≤ k ∧ xs.length * k.toNat ≤ 16000000 ∧ k.natAbs < 1000000 then some (.nw (.li (List.replicate k.toNat xs).flatten)) else none
  | _, _ => none
def fDiv : D → D → Option Rs
  | .int i, .int j => if divOk i j then some (.pu (.int (i / j))) else none
  | _, _ => none
def fMod : D → D → Option Rs
  | .int i, .int j => if 0 < j then some (.pu (.int (i % j))) else none
  | _, _ => none
def fPow : D → D → Option Rs
  | .int i, .int j => if 0 ≤ j ∧ j.natAbs ≤ 1000000 ∧ i.natAbs < 2 ^ 64 then some (.pu (.int (i ^ j.toNat))) else none
  | _, _ => none
def fShl : D → D → Option Rs
  | .int i, .int j => if 0 ≤ j ∧ j.natAbs ≤ 1000000 ∧ i.natAbs < 2 ^ 64 then some (.pu (.int (i * 2 ^ j.toNat))) else none
  | _, _ => none
def fShr : D → D → Option Rs
  | .int i, .int j => if 0 ≤ j then some (.pu (.int (i / 2 ^ j.toNat))) else none
  | _, _ => none
/-- comparisons -/
def fEq (a b : D) : Option Rs := if SeqAt.shaped a = true ∧ SeqAt.shaped b = true then some (.pu (.bool (PyData.eqv a b))) else none
def fNe (a b : D) : Option Rs := if SeqAt.shaped a = true ∧ SeqAt.shaped b = true then some (.pu (.bool (!PyData.eqv a b))) else none
def fCmp (g : Int → Int → Bool) : D → D → Option Rs
  | .int i, .int j => some (.pu (.bool (g i j)))
  | _, _ => none
def fLt := fCmp fun i j => decide (i < j)
def fLe := fCmp fun i j => decide (i ≤ j)
def fGt := fCmp fun i j => decide (j < i)
def fGe := fCmp fun i j => decide (j ≤ i)
def fIsN (neg : Bool) : D → D → Option Rs
  | .none, .none => some (.pu (.bool (!neg)))
  | .bool _, .none | .int _, .none | .str _, .none | .list _, .none | .tuple _, .none => some (.pu (.bool neg))
  | _, _ => none
def flatD : D → Bool
  | .none | .bool _ | .int _ | .str _ => true
  | _ => false
/-- in: flat things in lists and tuples; a sign, a text in a text -/
def inD (x : D) (ys : List D) : Bool := ys.any fun y => PyData.eqv y x
def inT (x y : Str) : Bool := if x.cps.size = 1 then decide (x.cps.getD 0 0 ∈ y.cps.toList) else !(Builtin.Str.occurrences y x 0 y.length 1).isEmpty
def fIn (neg : Bool) : D → D → Option Rs
  | x, .list ys => if flatD x = true ∧ ys.all flatD = true then some (.pu (.bool (if neg then !inD x ys else inD x ys))) else none
  | x, .tuple ys => if flatD x = true ∧ ys.all flatD = true then some (.pu (.bool (if neg then !inD x ys else inD x ys))) else none
  | x, .dict [(.bool true, .tuple ys)] => if flatD x = true ∧ ys.all flatD = true then some (.pu (.bool (if neg then !inD x ys else inD x ys))) else none
  | .str x, .str y => some (.pu (.bool (if neg then !inT x y else inT x y)))
  | _, _ => none
section
variable {K : PySem.W.Frag} {X : Cx}
theorem lim_le {n : Nat} (h : n ≤ 16000000) : n ≤ sizeLine := Nat.le_trans h (by decide)
theorem lim_lt {n : Nat} (h : n < 16000000) : n < sizeLine := Nat.lt_of_lt_of_le h (by decide)
theorem binS_int {g : Int → Int → Int} : BinS K (rI0 fun i j => .int (g i j)) (fInt2 g) := by
  intro x y dx dy R Z H Q e rx ry hf k
  unfold fInt2 at hf
  split at hf
  · cases hf
    exact ⟨_, _, rx.int, ry.int, k _ Z H (.refl e) (.int _)⟩
  · cases hf
theorem binS_intC {C : Int → Int → Prop} {g : Int → Int → Int} {f : D → D → Option Rs} (hf : ∀ a b R, f a b = some R → ∃ i j, a = .int i ∧ b = .int j ∧ C i j ∧ R = .pu (.int (g i j))) : BinS K (rI C fun i j => .int (g i j)) f := by
  intro x y dx dy R Z H Q e rx ry h k
  obtain ⟨i, j, rfl, rfl, c, rfl⟩ := hf _ _ _ h
  exact ⟨_, _, rx.int, ry.int, c, k _ Z H (.refl e) (.int _)⟩
theorem binS_cmp {g : Int → Int → Bool} : BinS K (rI0 fun i j => .bl (g i j)) (fCmp g) := by
  intro x y dx dy R Z H Q e rx ry hf k
  unfold fCmp at hf
  split at hf
  · cases hf
    exact ⟨_, _, rx.int, ry.int, k _ Z H (.refl e) (.bl _)⟩
  · cases hf
abbrev rAddAll (K : PySem.W.Frag) : R2 := fun x y H Q => rI0 (fun i j => .int (i + j)) x y H Q ∨ (fun x y H Q => (fun x y H Q => ∃ i j, x = V.str i ∧ y = V.str j ∧ i.length + j.length ≤ sizeLine ∧ Q (V.str (i ++ j)) H) x y H Q ∨ (fun x y H Q => rCat x y H Q ∨ rCatA K x y H Q) x y H Q) x y H Q
theorem op_addAll : OpR X (binaryOp .Add) (rAddAll X.K) := op_add.or (op_add_str.or (op_cat.or op_catA))
theorem new_ne {H : Hp} {p : Addr} {a : Addr} {o : HO} (h : H a = some o) (n : H p = none) : a ≠ p := ne_of_none h n
theorem binS_add : BinS K (rAddAll K) fAdd := by
  intro x y dx dy R Z H Q e rx ry hf k
  unfold fAdd at hf
  split at hf
  · cases hf
    exact .inl ⟨_, _, rx.int, ry.int, k _ Z H (.refl e) (.int _)⟩
  · split at hf
    · cases hf
      exact .inr (.inl ⟨_, _, rx.str, ry.str, lim_le ‹_›, k _ Z H (.refl e) (.str _)⟩)
    · cases hf
  · split at hf
    · cases hf
      rename_i xs ys hz
      obtain ⟨a, vs, rfl, ha, ra⟩ := rx.list e
      obtain ⟨b, ws, rfl, hb, rb⟩ := ry.list e
      refine .inr (.inr (.inl ⟨a, b, vs, ws, rfl, rfl, ha, hb, by rw [ra.length, rb.length]; exact lim_le hz, fun p hp => ?_⟩))
      exact k _ Z _ (.loose e hp _) ⟨p, _, rfl, hp, none_of_same e hp, upd_same, ra.append rb⟩
    · cases hf
  · split at hf
    · cases hf
      rename_i xs ys hz
      obtain ⟨a, vs, rfl, ha, ra, qa⟩ := rx.tup e
      obtain ⟨b, ws, rfl, hb, rb, qb⟩ := ry.tup e
      refine .inr (.inr (.inr ⟨a, b, vs, ws, rfl, rfl, SqT.of ha, SqT.of hb, by rw [ra.length, rb.length]; exact lim_le hz, fun h0 => ?_, fun h0 h1 => ?_, fun h0 h1 p hp => ?_⟩))
      · subst h0; cases ra; exact k _ Z H (.refl e) qb
      · subst h1; cases rb; rw [List.append_nil] at k; exact k _ Z H (.refl e) qa
      · refine k _ _ _ (.still e hp _) ?_
        have e1 : Same Z (upd Z p (.tup (vs ++ ws))) := same_upd (none_of_same e hp) _
        exact .tup upd_same ((ra.append rb).mono e1)
    · cases hf
  · cases hf
abbrev rMulAll : R2 := fun x y H Q => rI CMul (fun i j => .int (i * j)) x y H Q ∨ rRep x y H Q
theorem op_mulAll : OpR X (binaryOp .Mult) rMulAll := op_mul.or op_rep
theorem binS_mul : BinS K rMulAll fMul := by
  intro x y dx dy R Z H Q e rx ry hf k
  unfold fMul at hf
  split at hf
  · split at hf
    · cases hf
      rename_i h
      exact .inl ⟨_, _, rx.int, ry.int, mulOk_c h, k _ Z H (.refl e) (.int _)⟩
    · cases hf
  · split at hf
    · cases hf
      rename_i xs n h
      obtain ⟨a, vs, rfl, ha, ra⟩ := rx.list e
      refine .inr ⟨a, n, vs, rfl, ry.int, ha, by omega, by omega, by rw [ra.length]; exact lim_le h.2.1, fun p hp => ?_⟩
      refine k _ Z _ (.loose e hp _) ⟨p, _, rfl, hp, none_of_same e hp, upd_same, ?_⟩
      show RpAll K Z (List.replicate n.toNat vs).flatten (List.replicate n.toNat xs).flatten
      induction n.toNat with
      | zero => exact .nil
      | succ m ih => rw [List.replicate_succ, List.replicate_succ, List.flatten_cons, List.flatten_cons]; exact ra.append ih
    · cases hf
  · cases hf
theorem binS_div : BinS K (rI CDivW fun i j => .int (i / j)) fDiv := binS_intC fun a b R h => by
  unfold fDiv at h
  split at h
  · split at h
    · cases h; rename_i hd; exact ⟨_, _, rfl, rfl, divOk_c hd, rfl⟩
    · cases h
  · cases h
theorem binS_mod : BinS K (rI (fun _ j => 0 < j) fun i j => .int (i % j)) fMod := binS_intC fun a b R h => by
  unfold fMod at h
  split at h
  · split at h
    · cases h; exact ⟨_, _, rfl, rfl, ‹_›, rfl⟩
    · cases h
  · cases h
theorem binS_pow : BinS K (rI CPow fun i j => .int (i ^ j.toNat)) fPow := binS_intC fun a b R h => by
  unfold fPow at h
  split at h
  · split at h
    · rename_i c; cases h; exact ⟨_, _, rfl, rfl, ⟨c.1, by omega, c.2.2⟩, rfl⟩
    · cases h
  · cases h
theorem binS_shl : BinS K (rI CPow fun i j => .int (i * 2 ^ j.toNat)) fShl := binS_intC fun a b R h => by
  unfold fShl at h
  split at h
  · split at h
    · rename_i c; cases h; exact ⟨_, _, rfl, rfl, ⟨c.1, by omega, c.2.2⟩, rfl⟩
    · cases h
  · cases h
theorem binS_shr : BinS K (rI (fun _ j => 0 ≤ j) fun i j => .int (i / 2 ^ j.toNat)) fShr := binS_intC fun a b R h => by
  unfold fShr at h
  split at h
  · split at h
    · cases h; exact ⟨_, _, rfl, rfl, ‹_›, rfl⟩
    · cases h
  · cases h
theorem shaped_lay {d : D} (h : SeqAt.shaped d = true) : d.canLay0 = true := SeqAt.canLay_of_shaped h
theorem binS_eq : BinS K (rEqD K) fEq := by
  intro x y dx dy R Z H Q e rx ry hf k
  unfold fEq at hf
  split at hf
  · cases hf
    rename_i h
    exact ⟨dx, dy, rx.dp e (shaped_lay h.1), ry.dp e (shaped_lay h.2), h.1, h.2, k _ Z H (.refl e) (.bl _)⟩
  · cases hf
theorem binS_ne : BinS K (rNeD K) fNe := by
  intro x y dx dy R Z H Q e rx ry hf k
  unfold fNe at hf
  split at hf
  · cases hf
    rename_i h
    exact ⟨dx, dy, rx.dp e (shaped_lay h.1), ry.dp e (shaped_lay h.2), h.1, h.2, k _ Z H (.refl e) (.bl _)⟩
  · cases hf
theorem Rdb.nonI {Z H : Hp} {v : V} {d : D} (h : Rdb K Z H v d) (c : ∃ R, fIsN false d .none = some R) : decide (v = .non) = (match d with | .none => true | _ => false) := by
  rcases h with h | ⟨a, vs, ds, rfl, rfl, _⟩
  · cases h <;> first | rfl | (obtain ⟨R, c⟩ := c; cases c) | simp
  · simp
theorem binS_isN : BinS K rIsN (fIsN false) := by
  intro x y dx dy R Z H Q e rx ry hf k
  have c : ∃ R, fIsN false dx .none = some R := by
    unfold fIsN at hf ⊢
    split at hf <;> first | exact ⟨_, rfl⟩ | cases hf
  have n := rx.nonI c
  have hy : y = .non := by
    unfold fIsN at hf
    split at hf <;> first | exact ry.non | cases hf
  refine ⟨hy, ?_⟩
  rw [n]
  unfold fIsN at hf
  split at hf <;> first | (cases hf; exact k _ Z H (.refl e) (.bl _)) | cases hf
theorem binS_notN : BinS K rNotN (fIsN true) := by
  intro x y dx dy R Z H Q e rx ry hf k
  have c : ∃ R, fIsN false dx .none = some R := by
    unfold fIsN at hf ⊢
    split at hf <;> first | exact ⟨_, rfl⟩ | cases hf
  have n := rx.nonI c
  have hy : y = .non := by
    unfold fIsN at hf
    split at hf <;> first | exact ry.non | cases hf
  refine ⟨hy, ?_⟩
  rw [n]
  unfold fIsN at hf
  split at hf <;> first | (cases hf; exact k _ Z H (.refl e) (.bl _)) | cases hf
theorem Rp.flat {Z : Hp} {v : V} {d : D} (h : Rp K Z v d) (c : flatD d = true) : flatV v = true := by
  cases h <;> first | rfl | cases c
theorem Rdb.flat {Z H : Hp} {v : V} {d : D} (h : Rdb K Z H v d) (c : flatD d = true) : flatV v = true ∧ Rp K Z v d := by
  rcases h with h | ⟨_, _, _, _, rfl, _⟩
  · exact ⟨h.flat c, h⟩
  · cases c
theorem RpAll.flat {Z : Hp} : ∀ {vs : List V} {ds : List D}, RpAll K Z vs ds → ds.all flatD = true → vs.all flatV = true
  | _, [], h, _ => by cases h; rfl
  | _, d :: ds, h, c => by
    cases h with
    | cons h1 h2 =>
      simp only [List.all_cons, Bool.and_eq_true] at c ⊢
      exact ⟨h1.flat c.1, h2.flat c.2⟩
theorem eqv_flat {Z : Hp} {v w : V} {d e : D} (h : Rp K Z v d) (g : Rp K Z w e) (c : flatD d = true) (c' : flatD e = true) : eqV v w = PyData.eqv d e := by
  cases h <;> cases g <;> first | (simp [eqV, PyData.eqv]; done) | exact absurd c (by simp [flatD]) | exact absurd c' (by simp [flatD])
theorem inV_inD {Z : Hp} {v : V} {d : D} (h : Rp K Z v d) (c : flatD d = true) : ∀ {vs : List V} {ds : List D}, RpAll K Z vs ds → ds.all flatD = true → inV v vs = inD d ds
  | _, [], g, _ => by cases g; rfl
  | _, e :: ds, g, q => by
    cases g with
    | cons g1 g2 =>
      simp only [List.all_cons, Bool.and_eq_true] at q
      have ih := inV_inD h c g2 q.2
      unfold inV inD at ih ⊢
      rw [List.any_cons, List.any_cons, ih, eqv_flat g1 h q.1 c]
abbrev rInAll (K : PySem.W.Frag) (neg : Bool) : R2 := fun x y H Q => rIn K neg x y H Q ∨ (fun x y H Q => (if neg = true then rNotInS else rInS) x y H Q ∨ (fun x y H Q => ∃ i j, x = V.str i ∧ y = V.str j ∧ Q (V.bl (if neg then !(!(Builtin.Str.occurrences j i 0 j.length 1).isEmpty) else (!(Builtin.Str.occurrences j i 0 j.length 1).isEmpty))) H) x y H Q) x y H Q
theorem op_inAll : OpR X (compareOp .In) (rInAll X.K false) := by
  have h := (op_in_seq (X := X)).or ((op_inS (X := X)).or (op_in_str (X := X)))
  exact h
theorem op_notInAll : OpR X (compareOp .NotIn) (rInAll X.K true) := by
  have h := (op_notIn_seq (X := X)).or ((op_notInS (X := X)).or (op_notin_str (X := X)))
  exact h
theorem one_sign {x : Str} (h : x.cps.size = 1) : x = ⟨#[x.cps.getD 0 0]⟩ := by
  obtain ⟨⟨l⟩⟩ := x
  match l, h with
  | [c], _ => rfl
theorem binS_in {neg : Bool} : BinS K (rInAll K neg) (fIn neg) := by
  intro x y dx dy R Z H Q e rx ry hf k
  unfold fIn at hf
  split at hf
  · split at hf
    · cases hf
      rename_i ys h
      obtain ⟨a, vs, rfl, ha, ra⟩ := ry.list e
      obtain ⟨fx, px⟩ := rx.flat h.1
      refine .inl ⟨a, vs, rfl, .inl (SqL.of ha), fx, ra.flat h.2, ?_⟩
      rw [inV_inD px h.1 ra h.2]
      exact k _ Z H (.refl e) (.bl _)
    · cases hf
  · split at hf
    · cases hf
      rename_i ys h
      obtain ⟨a, vs, rfl, ha, ra, _⟩ := ry.tup e
      obtain ⟨fx, px⟩ := rx.flat h.1
      refine .inl ⟨a, vs, rfl, .inr (SqT.of ha), fx, ra.flat h.2, ?_⟩
      rw [inV_inD px h.1 ra h.2]
      exact k _ Z H (.refl e) (.bl _)
    · cases hf
  · split at hf
    · cases hf
      rename_i ys h
      obtain ⟨a, vs, rfl, ha, ra⟩ := ry.kon e
      obtain ⟨fx, px⟩ := rx.flat h.1
      refine .inl ⟨a, vs, rfl, .inr ha, fx, ra.flat h.2, ?_⟩
      rw [inV_inD px h.1 ra h.2]
      exact k _ Z H (.refl e) (.bl _)
    · cases hf
  · rename_i i j
    cases hf
    have k' := k _ Z H (.refl e) (.bl _)
    by_cases h1 : i.cps.size = 1
    · refine .inr (.inl ?_)
      have q : inT i j = decide (i.cps.getD 0 0 ∈ j.cps.toList) := by unfold inT; rw [if_pos h1]
      rw [q] at k'
      cases neg with
      | true =>
        show rNotInS x y H Q
        exact ⟨_, j, by rw [rx.str, ← one_sign h1], ry.str, k'⟩
      | false =>
        show rInS x y H Q
        exact ⟨_, j, by rw [rx.str, ← one_sign h1], ry.str, k'⟩
    · refine .inr (.inr ⟨i, j, rx.str, ry.str, ?_⟩)
      have q : inT i j = (!(Builtin.Str.occurrences j i 0 j.length 1).isEmpty) := by unfold inT; rw [if_neg h1]
      rw [q] at k'
      exact k'
  · cases hf
end
/-! ### unary -/
def UnS (K : PySem.W.Frag) (r : V → Hp → VK → Prop) (f : D → Option Rs) : Prop := ∀ (x : V) (dx : D) (R : Rs) (Z H : Hp) (Q : VK), Same Z H → Rdb K Z H x dx → f dx = some R →
  (∀ v Z' H', Grow Z H Z' H' → ResG K Z' H H' v R → Q v H') → r x H Q
def un1 (f : D → Option Rs) (a : Va) (ρ : Rho) : M Rs := match rdV ρ a with
  | some dx => match f dx with
    | some r => .ok r ρ
    | none => .st
  | _ => .st
@[simp] theorem un1_pu (f : D → Option Rs) (a : D) (ρ : Rho) : un1 f (.pu a) ρ = match f a with | some r => .ok r ρ | none => .st := rfl
def oUn (f : D → Option Rs) (oa : O Va) : O Rs := fun ρ => (oa ρ).bind (un1 f)
def fNeg : D → Option Rs
  | .int i => some (.pu (.int (-i)))
  | _ => none
section
variable {X : Cx} {G : Gm} {B : Wish} {a b : Expr} {pos : Pos} {oa ob : O Va}
theorem run_un {K : PySem.W.Frag} {r : V → Hp → VK → Prop} {f : D → Option Rs} (hf : UnS K r f) {σ : St} {H : Hp} {Q : VK} (w : Run K G B (RsR K G) (oUn f oa) σ H Q) : Run K G B (VaR K) oa σ H fun x H1 => r x H1 Q := by
  obtain ⟨Z, ρ, S, p⟩ := w
  refine ⟨Z, ρ, S, Post.bind p fun x a ρ1 Z1 H1 e1 S1 r1 p1 => ?_⟩
  unfold un1 at p1
  split at p1
  · rename_i dx hx
    split at p1
    · rename_i R hR
      exact hf x dx R Z1 H1 Q S1.zh (S1.rdb r1 hx) hR fun v Z' H' g h => p1.fin S1 g h
    · exact p1.elim
  · exact p1.elim
theorem rd_un {op : UnaryOp} {r : V → Hp → VK → Prop} {f : D → Option Rs} (ho : UnR X (unaryOp op) r) (hf : UnS X.K r f) (ha : ED X G B a oa) : RD X G B (.UnaryOp op a pos) (oUn f oa) :=
  pe_imp (pe_un ho ha) fun _ _ _ w => run_un hf w
theorem unS_neg {K : PySem.W.Frag} : UnS K (rU fun i => .int (-i)) fNeg := by
  intro x dx R Z H Q e rx hf k
  unfold fNeg at hf
  split at hf
  · cases hf; exact ⟨_, rx.int, k _ Z H (.refl e) (.int _)⟩
  · cases hf
/-! ### the operators by name -/
theorem rd_add (ha : ED X G B a oa) (hb : ED X G B b ob) : RD X G B (.BinOp a .Add b pos) (oBin fAdd oa ob) := rd_bin op_addAll binS_add ha hb
theorem rd_sub (ha : ED X G B a oa) (hb : ED X G B b ob) : RD X G B (.BinOp a .Sub b pos) (oBin fSub oa ob) := rd_bin op_sub binS_int ha hb
theorem rd_mul (ha : ED X G B a oa) (hb : ED X G B b ob) : RD X G B (.BinOp a .Mult b pos) (oBin fMul oa ob) := rd_bin op_mulAll binS_mul ha hb
theorem rd_fdiv (ha : ED X G B a oa) (hb : ED X G B b ob) : RD X G B (.BinOp a .FloorDiv b pos) (oBin fDiv oa ob) := rd_bin op_fdivW binS_div ha hb
theorem rd_mod (ha : ED X G B a oa) (hb : ED X G B b ob) : RD X G B (.BinOp a .Mod b pos) (oBin fMod oa ob) := rd_bin op_mod binS_mod ha hb
theorem rd_pow (ha : ED X G B a oa) (hb : ED X G B b ob) : RD X G B (.BinOp a .Pow b pos) (oBin fPow oa ob) := rd_bin op_pow binS_pow ha hb
theorem rd_shl (ha : ED X G B a oa) (hb : ED X G B b ob) : RD X G B (.BinOp a .LShift b pos) (oBin fShl oa ob) := rd_bin op_shl binS_shl ha hb
theorem rd_shr (ha : ED X G B a oa) (hb : ED X G B b ob) : RD X G B (.BinOp a .RShift b pos) (oBin fShr oa ob) := rd_bin op_shr binS_shr ha hb
theorem rd_band (ha : ED X G B a oa) (hb : ED X G B b ob) : RD X G B (.BinOp a .BitAnd b pos) (oBin fAnd oa ob) := rd_bin op_and binS_int ha hb
theorem rd_bor (ha : ED X G B a oa) (hb : ED X G B b ob) : RD X G B (.BinOp a .BitOr b pos) (oBin fOr oa ob) := rd_bin op_or binS_int ha hb
theorem rd_bxor (ha : ED X G B a oa) (hb : ED X G B b ob) : RD X G B (.BinOp a .BitXor b pos) (oBin fXor oa ob) := rd_bin op_xor binS_int ha hb
theorem rd_neg (ha : ED X G B a oa) : RD X G B (.UnaryOp .USub a pos) (oUn fNeg oa) := rd_un un_neg unS_neg ha
/-- a comparison's rule, for values and for tests -/
structure CmpK (X : Cx) (op : CmpOp) (r : R2) (f : D → D → Option Rs) : Prop where
  o : OpR X (compareOp op) r
  s : BinS X.K r f
theorem ck_eq {k : Nat} (hr : Room k X.A) : CmpK X .Eq (rEqD X.K) fEq := ⟨op_eqD hr.units, binS_eq⟩
theorem ck_ne {k : Nat} (hr : Room k X.A) : CmpK X .NotEq (rNeD X.K) fNe := ⟨op_neD hr.units, binS_ne⟩
theorem ck_lt : CmpK X .Lt (rI0 fun i j => .bl (decide (i < j))) fLt := ⟨op_lt, binS_cmp⟩
theorem ck_le : CmpK X .LtE (rI0 fun i j => .bl (decide (i ≤ j))) fLe := ⟨op_le, binS_cmp⟩
theorem ck_gt : CmpK X .Gt (rI0 fun i j => .bl (decide (j < i))) fGt := ⟨op_gt, binS_cmp⟩
theorem ck_ge : CmpK X .GtE (rI0 fun i j => .bl (decide (j ≤ i))) fGe := ⟨op_ge, binS_cmp⟩
theorem ck_is : CmpK X .Is rIsN (fIsN false) := ⟨op_isN, binS_isN⟩
theorem ck_isnot : CmpK X .IsNot rNotN (fIsN true) := ⟨op_notN, binS_notN⟩
theorem ck_in : CmpK X .In (rInAll X.K false) (fIn false) := ⟨op_inAll, binS_in⟩
theorem ck_notin : CmpK X .NotIn (rInAll X.K true) (fIn true) := ⟨op_notInAll, binS_in⟩
theorem rd_ck {op : CmpOp} {r : R2} {f : D → D → Option Rs} (c : CmpK X op r f) (ha : ED X G B a oa) (hb : ED X G B b ob) (hm : behindInMarks op b = false := by first | exact nomark _ | rfl) : RD X G B (.Compare a [op] [b] pos) (oBin f oa ob) := rd_cmp c.o c.s hm ha hb
end
end Ow
namespace Ow
open PySem L2
/-! ### tests -/
def tst1 (r : Rs) (ρ : Rho) : M Bool := match r with
  | .pu (.bool b) => .ok b ρ
  | _ => .st
@[simp] theorem tst1_b (b : Bool) (ρ : Rho) : tst1 (.pu (.bool b)) ρ = .ok b ρ := rfl
def oTst (o : O Rs) : O Bool := fun ρ => (o ρ).bind tst1
def fTru : D → Option Bool
  | .none => some false
  | .bool b => some b
  | .int i => some (i != 0)
  | .str x => if x.length ≤ 16000000 then some (x.length != 0) else none
  | .list xs => some (!xs.isEmpty)
  | .tuple xs => some (!xs.isEmpty)
  | .dict _ => none
def tru1 (a : Va) (ρ : Rho) : M Bool := match a with
  | .pu d => match fTru d with
    | some b => .ok b ρ
    | none => .st
  | .rf i => match ρ[i]? with
    | some (.ow _ (.li ds)) => .ok (!ds.isEmpty) ρ
    | some (.ow _ (.dk kvs)) => .ok (!kvs.isEmpty) ρ
    | _ => .st
@[simp] theorem tru1_pu (d : D) (ρ : Rho) : tru1 (.pu d) ρ = match fTru d with | some b => .ok b ρ | none => .st := rfl
def oTru (o : O Va) : O Bool := fun ρ => (o ρ).bind tru1
def oAnd (a b : O Bool) : O Bool := fun ρ => (a ρ).bind fun c ρ1 => if c = true then b ρ1 else .ok false ρ1
def oOr (a b : O Bool) : O Bool := fun ρ => (a ρ).bind fun c ρ1 => if c = true then .ok true ρ1 else b ρ1
def oNot (a : O Bool) : O Bool := fun ρ => (a ρ).bind fun c ρ1 => .ok (!c) ρ1
def oBl (a : O Bool) : O D := fun ρ => (a ρ).bind fun c ρ1 => .ok (.bool c) ρ1
def oIf {α : Type} (c : O Bool) (a b : O α) : O α := fun ρ => (c ρ).bind fun t ρ1 => if t = true then a ρ1 else b ρ1
def bl1 (d : D) (f : Bool → M D) : M D := match d with
  | .bool c => f c
  | _ => .st
@[simp] theorem bl1_b (c : Bool) (f : Bool → M D) : bl1 (.bool c) f = f c := rfl
def oAndV (a b : O D) : O D := fun ρ => (a ρ).bind fun d ρ1 => bl1 d fun c => if c = true then b ρ1 else .ok (.bool false) ρ1
def oOrV (a b : O D) : O D := fun ρ => (a ρ).bind fun d ρ1 => bl1 d fun c => if c = true then .ok (.bool true) ρ1 else b ρ1
def oNotV (a : O D) : O D := fun ρ => (a ρ).bind fun d ρ1 => bl1 d fun c => .ok (.bool (!c)) ρ1
def WD (X : Cx) (G : Gm) (B : Wish) (e : Expr) (o : O Bool) : Prop := PW X e (Run X.K G B BoR o)
section
variable {X : Cx} {G : Gm} {B : Wish} {a b c e : Expr} {rest : List Expr} {pos : Pos} {ta tb tc : O Bool} {oa ob oc : O Va}
theorem run_tst {K : PySem.W.Frag} {o : O Rs} {σ : St} {H : Hp} {Q : Bool → Hp → Prop} (w : Run K G B BoR (oTst o) σ H Q) : Run K G B (RsR K G) o σ H fun x H1 => ∃ k, x = .bl k ∧ Q k H1 :=
  run_imp w fun x r ρ1 Z1 H1 S1 q p1 => by
    unfold tst1 at p1
    split at p1
    · rename_i b
      have q' : Rp K Z1 x (.bool b) := q
      cases q'
      exact ⟨b, rfl, p1 b Z1 H1 (.refl _) S1 rfl⟩
    · exact p1.elim
theorem td_ck {op : CmpOp} {r : R2} {f : D → D → Option Rs} (k : CmpK X op r f) (ha : ED X G B a oa) (hb : ED X G B b ob) (hm : behindInMarks op b = false := by first | exact nomark _ | rfl) : TD X G B (.Compare a [op] [b] pos) (oTst (oBin f oa ob)) :=
  pt_imp (pt_cmpR k.o ha hb hm) fun _ _ _ w => run_bin k.s (run_tst w)
theorem td_rd {o : O Rs} (h : RD X G B e o) (he : ∀ whole, isTrue e X.env whole = (do let v ← whole; standAt e.pos; holding [v] (truthy v)) := by intro _; rfl) : TD X G B e (oTst o) :=
  pt_imp (pt_val h he) fun _ _ _ w => run_tst w
theorem td_tru {o : O Va} (h : ED X G B e o) (he : ∀ whole, isTrue e X.env whole = (do let v ← whole; standAt e.pos; holding [v] (truthy v)) := by intro _; rfl) : TD X G B e (oTru o) :=
  pt_imp (pt_truth h he) fun σ H Q w => run_imp w fun x va ρ1 Z1 H1 S1 q p1 => by
    unfold tru1 at p1
    split at p1
    · rename_i d
      split at p1
      · rename_i k hk
        refine ⟨k, ?_, p1 k Z1 H1 (.refl _) S1 rfl⟩
        have q' : Rp X.K Z1 x d := q
        unfold fTru at hk
        split at hk
        · cases hk; cases q'; rfl
        · cases hk; cases q'; rfl
        · cases hk; cases q'; rfl
        · split at hk
          · cases hk; cases q'; exact ⟨lim_le ‹_›, by simp only [bne]; congr 1; rw [Bool.eq_iff_iff]; simp⟩
          · cases hk
        · cases hk
          cases q' with
          | lst h1 h2 =>
            refine .inl ⟨_, SqL.of (S1.zh _ _ h1), ?_⟩
            cases h2 <;> rfl
        · cases hk
          cases q' with
          | tup h1 h2 =>
            refine .inr (.inl ⟨_, SqT.of (S1.zh _ _ h1), ?_⟩)
            cases h2 <;> rfl
        · cases hk
      · exact p1.elim
    · rename_i i
      have q' : σ[i]? = some (some x) := q
      split at p1
      · rename_i p ds hr
        obtain ⟨b, o, q1, ho, r, _⟩ := S1.ow i _ _ hr
        rw [q1] at q'; cases q'
        cases o with
        | lst vs =>
          refine ⟨!ds.isEmpty, .inl ⟨vs, SqL.of ho, ?_⟩, p1 _ Z1 H1 (.refl _) S1 rfl⟩
          cases (show RpAll X.K Z1 vs ds from r) <;> rfl
        | _ => exact r.elim
      · rename_i p kvs hr
        obtain ⟨b, o, q1, ho, r, _⟩ := S1.ow i _ _ hr
        rw [q1] at q'; cases q'
        cases o with
        | dK vs =>
          refine ⟨!kvs.isEmpty, .inr (.inr ⟨vs, ho, ?_⟩), p1 _ Z1 H1 (.refl _) S1 rfl⟩
          cases (show KvR X.K Z1 vs kvs from r) <;> rfl
        | _ => exact r.elim
      · exact p1.elim
theorem wd_and1 (h : TD X G B a ta) : WD X G B (.BoolOp .And [a] pos) ta := pw_and1 h
theorem wd_or1 (h : TD X G B a ta) : WD X G B (.BoolOp .Or [a] pos) ta := pw_or1 h
theorem pw_imp {e : Expr} {t t' : TT} (h : PW X e t) (k : ∀ σ H Q, t' σ H Q → t σ H Q) : PW X e t' := ⟨fun wh pins s σ H Q I w => h.run wh pins s σ H Q I (k _ _ _ w)⟩
theorem wd_and (ha : TD X G B a ta) (hb : WD X G B (.BoolOp .And (b :: rest) pos) tb) : WD X G B (.BoolOp .And (a :: b :: rest) pos) (oAnd ta tb) :=
  pw_imp (pw_and ha hb) fun σ H Q w => run_imp w fun x k ρ1 Z1 H1 S1 q p1 => by
    have q : x = k := q
    subst q
    cases x with
    | true => exact ⟨Z1, ρ1, S1, p1⟩
    | false => exact p1 false Z1 H1 (.refl _) S1 rfl
theorem wd_or (ha : TD X G B a ta) (hb : WD X G B (.BoolOp .Or (b :: rest) pos) tb) : WD X G B (.BoolOp .Or (a :: b :: rest) pos) (oOr ta tb) :=
  pw_imp (pw_or ha hb) fun σ H Q w => run_imp w fun x k ρ1 Z1 H1 S1 q p1 => by
    have q : x = k := q
    subst q
    cases x with
    | true => exact p1 true Z1 H1 (.refl _) S1 rfl
    | false => exact ⟨Z1, ρ1, S1, p1⟩
theorem td_w (h : WD X G B e ta) : TD X G B e ta := PW.pt h
theorem td_not (ha : TD X G B a ta) : TD X G B (.UnaryOp .Not a pos) (oNot ta) :=
  pt_imp (pt_not ha) fun σ H Q w => run_imp w fun x k ρ1 Z1 H1 S1 q p1 => by
    have q : x = k := q
    subst q
    exact p1 _ Z1 H1 (.refl _) S1 rfl
/-! .. as values -/
theorem pd_one {op} {o : O D} (h : PD X G B a o) : PD X G B (.BoolOp op [a] pos) o := pe_one h
theorem pd_and {o o' : O D} (ha : PD X G B a o) (hb : PD X G B (.BoolOp .And (b :: rest) pos) o') : PD X G B (.BoolOp .And (a :: b :: rest) pos) (oAndV o o') :=
  pe_imp (pe_and ha hb) fun σ H Q w => run_imp w fun x k ρ1 Z1 H1 S1 q p1 => by
    unfold bl1 at p1
    split at p1
    · rename_i c
      have q' : Rp X.K Z1 x (.bool c) := q
      cases q'
      refine ⟨c, rfl, ?_⟩
      cases c with
      | true => exact ⟨Z1, ρ1, S1, p1⟩
      | false => exact p1 _ Z1 H1 (.refl _) S1 (.bl _)
    · exact p1.elim
theorem pd_or {o o' : O D} (ha : PD X G B a o) (hb : PD X G B (.BoolOp .Or (b :: rest) pos) o') : PD X G B (.BoolOp .Or (a :: b :: rest) pos) (oOrV o o') :=
  pe_imp (pe_or ha hb) fun σ H Q w => run_imp w fun x k ρ1 Z1 H1 S1 q p1 => by
    unfold bl1 at p1
    split at p1
    · rename_i c
      have q' : Rp X.K Z1 x (.bool c) := q
      cases q'
      refine ⟨c, rfl, ?_⟩
      cases c with
      | true => exact p1 _ Z1 H1 (.refl _) S1 (.bl _)
      | false => exact ⟨Z1, ρ1, S1, p1⟩
    · exact p1.elim
theorem pd_not {o : O D} (ha : PD X G B a o) : PD X G B (.UnaryOp .Not a pos) (oNotV o) :=
  pe_imp (pe_not ha) fun σ H Q w => run_imp w fun x k ρ1 Z1 H1 S1 q p1 => by
    unfold bl1 at p1
    split at p1
    · rename_i c
      have q' : Rp X.K Z1 x (.bool c) := q
      cases q'
      exact ⟨c, rfl, p1 _ Z1 H1 (.refl _) S1 (.bl _)⟩
    · exact p1.elim
theorem rd_if {o o' : O Rs} (hc : TD X G B c tc) (ha : RD X G B a o) (hb : RD X G B b o') : RD X G B (.IfExp c a b pos) (oIf tc o o') :=
  pe_imp (pe_ifExp hc ha hb) fun σ H Q w => run_imp w fun x k ρ1 Z1 H1 S1 q p1 => by
    have q : x = k := q
    subst q
    cases x with
    | true => exact ⟨Z1, ρ1, S1, p1⟩
    | false => exact ⟨Z1, ρ1, S1, p1⟩
theorem ed_if {o o' : O Va} (hc : TD X G B c tc) (ha : ED X G B a o) (hb : ED X G B b o') : ED X G B (.IfExp c a b pos) (oIf tc o o') :=
  pe_imp (pe_ifExp hc ha hb) fun σ H Q w => run_imp w fun x k ρ1 Z1 H1 S1 q p1 => by
    have q : x = k := q
    subst q
    cases x with
    | true => exact ⟨Z1, ρ1, S1, p1⟩
    | false => exact ⟨Z1, ρ1, S1, p1⟩
end
/-! ### two comparisons in a row -/
def oChain (f g : D → D → Option Rs) (oa ob oc : O Va) : O Rs := fun ρ => (oa ρ).bind fun a ρ1 => (ob ρ1).bind fun b ρ2 => (bin1 f a b ρ2).bind fun r ρ3 => (tst1 r ρ3).bind fun k ρ4 => if k = true then (oc ρ4).bind fun c ρ5 => bin1 g b c ρ5 else .ok (.pu (.bool false)) ρ4
section
variable {X : Cx} {G : Gm} {B : Wish} {a b c e : Expr} {rest : List Expr} {pos : Pos} {oa ob oc : O Va}
theorem bin1_run {K : PySem.W.Frag} {r : R2} {f : D → D → Option Rs} (hf : BinS K r f) {σ : St} {Z H : Hp} {ρ : Rho} {x y : V} {a b : Va} {Q : VK} (S : Sim K G Z ρ σ H) (rx : VaR K Z ρ σ H x a) (ry : VaR K Z ρ σ H y b)
    (p : Post K G B (RsR K G) σ Z (bin1 f a b ρ) Q) : r x y H Q := by
  unfold bin1 at p
  split at p
  · rename_i dx dy hx hy
    split at p
    · rename_i R hR
      exact hf x y dx dy R Z H Q S.zh (S.rdb rx hx) (S.rdb ry hy) hR fun v Z' H' g h => p.fin S g h
    · exact p.elim
  · exact p.elim
theorem run_chain {K : PySem.W.Frag} {r r' : R2} {f g : D → D → Option Rs} (hf : BinS K r f) (hg : BinS K r' g) {σ : St} {H : Hp} {Q : VK} (w : Run K G B (RsR K G) (oChain f g oa ob oc) σ H Q) :
    tChain r r' (Run K G B (VaR K) oa) (Run K G B (VaR K) ob) (Run K G B (VaR K) oc) σ H Q := by
  obtain ⟨Z, ρ, S, p⟩ := w
  refine ⟨Z, ρ, S, Post.bind p fun x a ρ1 Z1 H1 e1 S1 r1 p1 => ⟨Z1, ρ1, S1, Post.bind p1 fun y b ρ2 Z2 H2 e2 S2 r2 p2 => ?_⟩⟩
  refine bin1_run hf S2 (r1.mono (ρ' := ρ2) (H' := H2) e2) r2 (Post.bind p2 fun z r ρ3 Z3 H3 e3 S3 r3 p3 => ?_)
  unfold tst1 at p3
  split at p3
  · rename_i k
    have q : Rp K Z3 z (.bool k) := r3
    cases q
    refine ⟨k, rfl, ?_⟩
    cases k with
    | true =>
      refine ⟨Z3, ρ3, S3, Post.bind (R' := RsR K G) p3 fun w c ρ5 Z5 H5 e5 S5 r5 p5 => ?_⟩
      exact bin1_run hg S5 (r2.mono (ρ' := ρ5) (H' := H5) (e3.trans e5)) r5 p5
    | false => exact p3 _ Z3 H3 (.refl _) S3 (.bl _)
  · exact p3.elim
theorem rd_chain {op op' : CmpOp} {r r' : R2} {f g : D → D → Option Rs} (k : CmpK X op r f) (k' : CmpK X op' r' g) (ha : ED X G B a oa) (hb : ED X G B b ob) (hc : ED X G B c oc) (hl : lastMarks [op, op'] [b, c] = false := by with_unfolding_all rfl) :
    RD X G B (.Compare a [op, op'] [b, c] pos) (oChain f g oa ob oc) := pe_imp (pe_chain k.o k'.o ha hb hc hl) fun _ _ _ w => run_chain k.s k'.s w
theorem td_chain {op op' : CmpOp} {r r' : R2} {f g : D → D → Option Rs} (k : CmpK X op r f) (k' : CmpK X op' r' g) (ha : ED X G B a oa) (hb : ED X G B b ob) (hc : ED X G B c oc) (hl : lastMarks [op, op'] [b, c] = false := by with_unfolding_all rfl) :
    TD X G B (.Compare a [op, op'] [b, c] pos) (oTst (oChain f g oa ob oc)) := pt_imp (pt_chain k.o k'.o ha hb hc hl) fun _ _ _ w => run_chain k.s k'.s (run_tst w)
end
end Ow
namespace Ow
open PySem L2
/-! ### rows of expressions -/
def PusR (K : PySem.W.Frag) : Rel (List D) (List V) := fun Z ρ σ H vs ds => RpAll K Z vs ds
/-- a row of data to be kept (displays) -/
def QD (X : Cx) (G : Gm) (B : Wish) (es : List Expr) (o : O (List D)) : Prop := PA X es (Run X.K G B (PusR X.K) o)
def oNil {α : Type} : O (List α) := fun ρ => .ok [] ρ
def oCons {α : Type} (a : O α) (r : O (List α)) : O (List α) := fun ρ => (a ρ).bind fun x ρ1 => (r ρ1).bind fun xs ρ2 => .ok (x :: xs) ρ2
def oTup (o : O (List D)) : O D := fun ρ => (o ρ).bind fun ds ρ1 => if ds.length ≤ 16000000 then .ok (.tuple ds) ρ1 else .st
def oLst (o : O (List D)) : O Rs := fun ρ => (o ρ).bind fun ds ρ1 => if ds.length ≤ 16000000 then .ok (.nw (.li ds)) ρ1 else .st
section
variable {X : Cx} {G : Gm} {B : Wish} {e : Expr} {es : List Expr} {pos : Pos}
theorem VasR.mono {K : PySem.W.Frag} {Z Z' : Hp} {ρ ρ' : Rho} {σ : St} {H H' : Hp} {vs : List V} {as : List Va} (h : VasR K Z ρ σ H vs as) (e : Same Z Z') : VasR K Z' ρ' σ H' vs as :=
  Paired.mapP h fun _ _ r => VaR.mono r e
theorem qd_nil : QD X G B [] oNil := pa_imp pa_nil fun σ H Q ⟨Z, ρ, S, p⟩ => p [] Z H (.refl _) S .nil
theorem qd_cons {o : O D} {o' : O (List D)} (h : PD X G B e o) (h' : QD X G B es o') (hs : starEach (e :: es) X.env = (false, eval e X.env) :: starEach es X.env := by rfl) : QD X G B (e :: es) (oCons o o') :=
  pa_imp (pa_cons h h' hs) fun σ H Q w => run_imp w fun x d ρ1 Z1 H1 S1 r1 p1 => ⟨Z1, ρ1, S1, Post.bind p1 fun xs ds ρ2 Z2 H2 e2 S2 r2 p2 => p2 _ Z2 H2 (.refl _) S2 (.cons (Rp.mono r1 e2) r2)⟩
theorem ad_nil : AD X G B [] oNil := pa_imp pa_nil fun σ H Q ⟨Z, ρ, S, p⟩ => p [] Z H (.refl _) S .nil
theorem ad_cons {o : O Va} {o' : O (List Va)} (h : ED X G B e o) (h' : AD X G B es o') (hs : starEach (e :: es) X.env = (false, eval e X.env) :: starEach es X.env := by rfl) : AD X G B (e :: es) (oCons o o') :=
  pa_imp (pa_cons h h' hs) fun σ H Q w => run_imp w fun x d ρ1 Z1 H1 S1 r1 p1 => ⟨Z1, ρ1, S1, Post.bind p1 fun xs ds ρ2 Z2 H2 e2 S2 r2 p2 => p2 _ Z2 H2 (.refl _) S2 (.cons (VaR.mono r1 e2) r2)⟩
theorem pd_tup {o : O (List D)} {k} (h : QD X G B es o) : PD X G B (.Tuple es k pos) (oTup o) :=
  pe_imp (pe_tup h) fun σ H Q w => run_imp w fun vs ds ρ1 Z1 H1 S1 r1 p1 => by
    split at p1
    · rename_i hz
      refine ⟨by rw [RpAll.length r1]; exact lim_le hz, fun p hp => ?_⟩
      have g := Grow.still S1.zh hp (.tup vs)
      exact p1 _ _ _ g.z (S1.grow g) (.tup upd_same (RpAll.mono r1 g.z))
    · exact p1.elim
theorem rd_lst {o : O (List D)} (h : QD X G B es o) : RD X G B (.List es pos) (oLst o) :=
  pe_imp (pe_lst h) fun σ H Q w => run_imp w fun vs ds ρ1 Z1 H1 S1 r1 p1 => by
    split at p1
    · rename_i hz
      refine ⟨by rw [RpAll.length r1]; exact lim_le hz, fun p hp => ?_⟩
      exact p1.fin S1 (.loose S1.zh hp _) ⟨p, _, rfl, hp, S1.fresh hp, upd_same, r1⟩
    · exact p1.elim
end
/-! ### subscripts, slices -/
def fIx : D → D → Option Rs
  | .list xs, .int i => (atI xs i).map .pu
  | .tuple xs, .int i => (atI xs i).map .pu
  | .str x, .int i => if x.length ≤ 16000000 then (atI x.cps.toList i).map fun c => .pu (.str ⟨#[c]⟩) else none
  | .dict [(.none, .list xs)], .int i => (atI xs i).map .pu
  | .dict [(.bool true, .tuple xs)], .int i => (atI xs i).map .pu
  | _, _ => none
theorem atI_rp {K : PySem.W.Frag} {Z : Hp} {vs : List V} {ds : List D} {i : Int} {d : D} (r : RpAll K Z vs ds) (h : atI ds i = some d) : ∃ v, atI vs i = some v ∧ Rp K Z v d := by
  unfold atI at h ⊢
  rw [r.length]
  cases e : ixN ds.length i with
  | none => rw [e] at h; cases h
  | some j =>
    rw [e] at h
    exact r.get h
theorem binS_ix {K : PySem.W.Frag} : BinS K (rIx K) fIx := by
  intro x y dx dy R Z H Q e rx ry hf k
  unfold fIx at hf
  split at hf
  · rename_i xs i
    cases h : atI xs i with
    | none => rw [h] at hf; cases hf
    | some d =>
      rw [h] at hf; cases hf
      obtain ⟨a, vs, rfl, ha, ra⟩ := rx.list e
      obtain ⟨v, hv, rv⟩ := atI_rp ra h
      exact .inl ⟨a, vs, i, v, rfl, ry.int, SqL.of ha, hv, k v Z H (.refl e) rv⟩
  · rename_i xs i
    cases h : atI xs i with
    | none => rw [h] at hf; cases hf
    | some d =>
      rw [h] at hf; cases hf
      obtain ⟨a, vs, rfl, ha, ra, _⟩ := rx.tup e
      obtain ⟨v, hv, rv⟩ := atI_rp ra h
      exact .inr (.inl ⟨a, vs, i, v, rfl, ry.int, SqT.of ha, hv, k v Z H (.refl e) rv⟩)
  · rename_i x i
    split at hf
    · cases h : atI x.cps.toList i with
      | none => rw [h] at hf; cases hf
      | some d =>
        rw [h] at hf; cases hf
        exact .inr (.inr ⟨x, i, d, rx.str, ry.int, lim_le ‹_›, h, k _ Z H (.refl e) (.str _)⟩)
    · cases hf
  · rename_i xs i
    cases h : atI xs i with
    | none => rw [h] at hf; cases hf
    | some d =>
      rw [h] at hf; cases hf
      obtain ⟨a, vs, rfl, ha, ra⟩ := rx.scr e
      obtain ⟨v, hv, rv⟩ := atI_rp ra h
      exact .inl ⟨a, vs, i, v, rfl, ry.int, ha, hv, k v Z H (.refl e) rv⟩
  · rename_i xs i
    cases h : atI xs i with
    | none => rw [h] at hf; cases hf
    | some d =>
      rw [h] at hf; cases hf
      obtain ⟨a, vs, rfl, ha, ra⟩ := rx.kon e
      obtain ⟨v, hv, rv⟩ := atI_rp ra h
      exact .inr (.inl ⟨a, vs, i, v, rfl, ry.int, ha, hv, k v Z H (.refl e) rv⟩)
  · cases hf
section
variable {X : Cx} {G : Gm} {B : Wish} {a b e : Expr} {es : List Expr} {pos p2 : Pos} {oa ob : O Va}
theorem rd_ix (ha : ED X G B a oa) (hb : ED X G B b ob) (hs : PlainIx b := by exact fun _ _ => rfl) : RD X G B (.Subscript a b pos) (oBin fIx oa ob) :=
  pe_imp (pe_ix ix_seq ha hb hs) fun _ _ _ w => run_bin binS_ix w
end
def cutD {α : Type} (xs : List α) (lo hi : Option Int) : List α := (xs.drop (HT.sIx xs.length 0 lo)).take (HT.sIx xs.length xs.length hi - HT.sIx xs.length 0 lo)
def fSl : D → Option Int → Option Int → Option Rs
  | .list xs, lo, hi => some (.nw (.li (cutD xs lo hi)))
  | .tuple xs, lo, hi => some (.pu (.tuple (cutD xs lo hi)))
  | .str x, lo, hi => if x.length ≤ 16000000 then some (.pu (.str (cutS x lo hi))) else none
  | _, _, _ => none
def OpR' : Rel (Option Int) (Option Int) := fun _ _ _ _ a b => a = b
def OD (X : Cx) (G : Gm) (B : Wish) (e : Option Expr) (o : O (Option Int)) : Prop := PO X e (Run X.K G B OpR' o)
def part1 (d : D) (ρ : Rho) : M (Option Int) := match d with
  | .int i => .ok (some i) ρ
  | _ => .st
@[simp] theorem part1_i (i : Int) (ρ : Rho) : part1 (.int i) ρ = .ok (some i) ρ := rfl
def oPart (o : O D) : O (Option Int) := fun ρ => (o ρ).bind part1
def oNoPart : O (Option Int) := fun ρ => .ok none ρ
def sl1 (a : Va) (lo hi : Option Int) (ρ : Rho) : M Rs := match rdV ρ a with
  | some d => match fSl d lo hi with
    | some r => .ok r ρ
    | none => .st
  | none => .st
def oSl (oa : O Va) (ol oh : O (Option Int)) : O Rs := fun ρ => (oa ρ).bind fun a ρ1 => (ol ρ1).bind fun lo ρ2 => (oh ρ2).bind fun hi ρ3 => sl1 a lo hi ρ3
section
variable {X : Cx} {G : Gm} {B : Wish} {a b e : Expr} {lo hi : Option Expr} {es : List Expr} {pos p2 : Pos} {oa ob : O Va}
theorem po_imp {e : Option Expr} {t t' : TO} (h : PO X e t) (k : ∀ σ H Q, t' σ H Q → t σ H Q) : PO X e t' := ⟨fun pins s σ H Q I w => h.run pins s σ H Q I (k _ _ _ w)⟩
theorem od_some {o : O D} (h : PD X G B e o) : OD X G B (some e) (oPart o) := po_imp (po_some h) fun σ H Q w => run_imp w fun x d ρ1 Z1 H1 S1 r1 p1 => by
  unfold part1 at p1
  split at p1
  · rename_i i
    have q : Rp X.K Z1 x (.int i) := r1
    cases q
    exact ⟨i, rfl, p1 _ Z1 H1 (.refl _) S1 rfl⟩
  · exact p1.elim
theorem od_none : OD X G B none oNoPart := po_imp po_none fun σ H Q ⟨Z, ρ, S, p⟩ => p none Z H (.refl _) S rfl
theorem SlR.or {r r' : V → Option Int → Option Int → Hp → VK → Prop} (h : SlR X r) (h' : SlR X r') : SlR X (fun x lo hi H Q => r x lo hi H Q ∨ r' x lo hi H Q) :=
  fun pins s σ H x v vl vu lo hi sl Q I rx hs pl pu w => w.elim (h pins s σ H x v vl vu lo hi sl Q I rx hs pl pu) (h' pins s σ H x v vl vu lo hi sl Q I rx hs pl pu)
theorem rd_sl {ol oh : O (Option Int)} (ha : ED X G B a oa) (hl : OD X G B lo ol) (hh : OD X G B hi oh) : RD X G B (.Subscript a (.Slice lo hi none p2) pos) (oSl oa ol oh) :=
  pe_imp (pe_slice (SlR.or sl_list (SlR.or sl_tupA sl_str)) ha hl hh) fun σ H Q w => run_imp w fun x va ρ1 Z1 H1 S1 r1 p1 =>
    ⟨Z1, ρ1, S1, Post.bind p1 fun l l' ρ2 Z2 H2 e2 S2 r2 p2 => ⟨Z2, ρ2, S2, Post.bind p2 fun u u' ρ3 Z3 H3 e3 S3 r3 p3 => by
      have r2 : l = l' := r2
      have r3 : u = u' := r3
      subst r2 r3
      unfold sl1 at p3
      split at p3
      · rename_i d hd
        have rd := S3.rdb (r1.mono (ρ' := ρ3) (H' := H3) (e2.trans e3)) hd
        have e := S3.zh
        unfold fSl at p3
        split at p3
        · rename_i R hR
          split at hR
          · cases hR
            rename_i xs
            obtain ⟨b, vs, rfl, hb, rb⟩ := rd.list e
            refine .inl ⟨b, vs, rfl, SqL.of hb, fun p hp => ?_⟩
            refine p3.fin S3 (.loose e hp _) ⟨p, _, rfl, hp, S3.fresh hp, upd_same, ?_⟩
            show RpAll X.K Z3 (cutV vs l u) (cutD xs l u)
            unfold cutV cutD
            rw [rb.length]
            exact (rb.drop _).take _
          · cases hR
            rename_i xs
            obtain ⟨b, vs, rfl, hb, rb, qb⟩ := rd.tup e
            have hl := rb.length
            refine .inr (.inl ⟨b, vs, rfl, SqT.of hb, fun hw => ?_, fun hw p hp => ?_⟩)
            · refine p3.fin S3 (.refl e) ?_
              have q : cutD xs l u = xs := by
                unfold cutD
                rw [hl] at hw
                rw [hw.1, hw.2, List.drop_zero, Nat.sub_zero, List.take_length]
              show Rp X.K Z3 _ (.tuple (cutD xs l u))
              rw [q]
              exact qb
            · have g := Grow.still e hp (.tup (cutV vs l u))
              refine p3.fin S3 g (.tup upd_same (RpAll.mono ?_ g.z))
              unfold cutV cutD
              rw [rb.length]
              exact (rb.drop _).take _
          · split at hR
            · cases hR
              exact .inr (.inr ⟨_, rd.str, lim_le ‹_›, p3.fin S3 (.refl e) (.str _)⟩)
            · cases hR
          · cases hR
        · exact p3.elim
      · exact p3.elim⟩⟩
end
/-! ### built-ins by their arguments -/
def rdVs (ρ : Rho) : List Va → Option (List D)
  | [] => some []
  | a :: as => match rdV ρ a, rdVs ρ as with
    | some d, some ds => some (d :: ds)
    | _, _ => none
@[simp] theorem rdVs_nil (ρ : Rho) : rdVs ρ [] = some [] := rfl
@[simp] theorem rdVs_cons (ρ : Rho) (a : Va) (as : List Va) : rdVs ρ (a :: as) = match rdV ρ a, rdVs ρ as with | some d, some ds => some (d :: ds) | _, _ => none := rfl
theorem Sim.rdbs {K : PySem.W.Frag} {G : Gm} {Z : Hp} {ρ ρ' : Rho} {σ : St} {H H' : Hp} (S : Sim K G Z ρ σ H) : ∀ {as : List Va} {vs : List V} {ds : List D}, VasR K Z ρ' σ H' vs as → rdVs ρ as = some ds → Paired (Rdb K Z H) vs ds
  | [], _, _, h, e => by cases h; cases e; exact .nil
  | a :: as, _, _, h, e => by
    cases h with
    | cons h1 h2 =>
      unfold rdVs at e
      split at e
      · cases e
        exact .cons (S.rdb h1 ‹_›) (Sim.rdbs S h2 ‹_›)
      · cases e
def CallS (K : PySem.W.Frag) (r : List V → Hp → VK → Prop) (f : List D → Option Rs) : Prop := ∀ (vs : List V) (ds : List D) (R : Rs) (Z H : Hp) (Q : VK), Same Z H → Paired (Rdb K Z H) vs ds → f ds = some R →
  (∀ v Z' H', Grow Z H Z' H' → ResG K Z' H H' v R → Q v H') → r vs H Q
def cb1 (f : List D → Option Rs) (as : List Va) (ρ : Rho) : M Rs := match rdVs ρ as with
  | some ds => match f ds with
    | some r => .ok r ρ
    | none => .st
  | none => .st
def oCB (f : List D → Option Rs) (oas : O (List Va)) : O Rs := fun ρ => (oas ρ).bind (cb1 f)
section
variable {X : Cx} {G : Gm} {B : Wish} {x : Str} {p pos : Pos} {e o : Expr} {es : List Expr} {id T : String} {r : List V → Hp → VK → Prop} {f : List D → Option Rs} {oas : O (List Va)}
theorem run_cb {K : PySem.W.Frag} (hf : CallS K r f) {σ : St} {H : Hp} {Q : VK} (w : Run K G B (RsR K G) (oCB f oas) σ H Q) : tCB r (Run K G B (VasR K) oas) σ H Q :=
  run_imp (C := fun vs H1 => r vs H1 Q) w fun vs as ρ1 Z1 H1 S1 r1 p1 => by
    unfold cb1 at p1
    split at p1
    · rename_i ds hd
      split at p1
      · rename_i R hR
        exact hf vs ds R Z1 H1 Q S1.zh (S1.rdbs r1 hd) hR fun v Z' H' g h => p1.fin S1 g h
      · exact p1.elim
    · exact p1.elim
theorem rd_callB (hc : CallR X (.builtin id) r) (hf : CallS X.K r f) (hg : Gl X x) (hm : X.mg x = none) (hv : bootBuiltins x = some (.builtin id)) (ha : AD X G B (e :: es) oas) (hn : x ≠ "__name__" := by decide) (hdb : (x == ("__debug__" : Str)) = false := by decide)
    (he : starEach (e :: es) X.env = (false, eval e X.env) :: starEach es X.env := by rfl) (hpl : (backTo pos (starEach es X.env)).any (·.1) = false := by rfl) : RD X G B (.Call (.Name x p) (e :: es) [] pos) (oCB f oas) :=
  pe_imp (pe_callB hc hg hm hv ha hn hdb he hpl) fun _ _ _ w => run_cb hf w
theorem rd_callTy (hc : CallR X (.type T) r) (hf : CallS X.K r f) (hg : Gl X x) (hm : X.mg x = none) (hv : bootBuiltins x = some (.type T)) (ha : AD X G B (e :: es) oas) (hn : x ≠ "__name__" := by decide) (hdb : (x == ("__debug__" : Str)) = false := by decide)
    (he : starEach (e :: es) X.env = (false, eval e X.env) :: starEach es X.env := by rfl) (hpl : (backTo pos (starEach es X.env)).any (·.1) = false := by rfl) : RD X G B (.Call (.Name x p) (e :: es) [] pos) (oCB f oas) :=
  pe_imp (pe_callTy hc hg hm hv ha hn hdb he hpl) fun _ _ _ w => run_cb hf w
end
/-! ### methods of built-in things, that change nothing -/
def MetS (K : PySem.W.Frag) (r : V → List V → Hp → VK → Prop) (f : D → List D → Option Rs) : Prop := ∀ (x : V) (d : D) (vs : List V) (ds : List D) (R : Rs) (Z H : Hp) (Q : VK), Same Z H → Rdb K Z H x d → Paired (Rdb K Z H) vs ds → f d ds = some R →
  (∀ v Z' H', Grow Z H Z' H' → ResG K Z' H H' v R → Q v H') → r x vs H Q
def met1 (f : D → List D → Option Rs) (a : Va) (as : List Va) (ρ : Rho) : M Rs := match rdV ρ a, rdVs ρ as with
  | some d, some ds => match f d ds with
    | some r => .ok r ρ
    | none => .st
  | _, _ => .st
def isTy (T : String) (d : D) : Bool := match d with
  | .str _ => T == "str"
  | .list _ => T == "list"
  | .int _ => T == "int"
  | _ => false
def ty1 (T : String) (a : Va) (ρ : Rho) (m : M Rs) : M Rs := match rdV ρ a with
  | some d => if isTy T d = true then m else .st
  | none => .st
def oBM (T : String) (f : D → List D → Option Rs) (oo : O Va) (oas : O (List Va)) : O Rs := fun ρ => (oo ρ).bind fun a ρ1 => ty1 T a ρ1 ((oas ρ1).bind fun as ρ2 => met1 f a as ρ2)
def oBM0 (T : String) (f : D → List D → Option Rs) (oo : O Va) : O Rs := fun ρ => (oo ρ).bind fun a ρ1 => ty1 T a ρ1 (met1 f a [] ρ1)
theorem isTy_v {K : PySem.W.Frag} {Z H : Hp} {x : V} {d : D} {T : String} (h : isTy T d = true) (r : Rdb K Z H x d) (e : Same Z H) : tyV K T x H := by
  unfold isTy at h
  split at h
  · rw [r.str]; exact eq_of_beq h
  · obtain ⟨a, vs, rfl, ha, _⟩ := r.list e; exact .inl ⟨eq_of_beq h, vs, SqL.of ha⟩
  · rw [r.int]; exact eq_of_beq h
  · cases h
section
variable {X : Cx} {G : Gm} {B : Wish} {name : Str} {apos cpos : Pos} {e o : Expr} {es : List Expr} {id T : String} {r : V → List V → Hp → VK → Prop} {f : D → List D → Option Rs} {oo : O Va} {oas : O (List Va)}
theorem rd_bm (pa : PlainAttrs T) (slot : Slot T name id) (hty : typeOf (.builtin id) = pure (.type "method_descriptor")) (hm : MtR X id r) (hf : MetS X.K r f) (ho : ED X G B o oo) (ha : AD X G B (e :: es) oas)
    (hbase : attributeBase o name X.env (eval o X.env) = eval o X.env := by rfl)
    (hfew : ((backTo cpos (starEach (e :: es) X.env)).all (fun x => !x.1) && (backToKw cpos (keywordEach [] X.env)).all (fun x => x.1.isSome)
      && decide ((e :: es).length + ([] : List Keyword).length + (if ([] : List Keyword).isEmpty then 0 else 1) < 30)) = true := by rfl)
    (hline : (apos.endLine == cpos.line) = true := by rfl) (hs : starEach (e :: es) X.env = (false, eval e X.env) :: starEach es X.env := by rfl) (hplain : (backTo cpos (starEach es X.env)).any (·.1) = false := by rfl) :
    RD X G B (.Call (.Attribute o name apos) (e :: es) [] cpos) (oBM T f oo oas) :=
  pe_imp (pe_bm pa slot hty hm ho ha hbase hfew hline hs hplain) fun σ H Q w => run_imp w fun x va ρ1 Z1 H1 S1 r1 p1 => by
    unfold ty1 at p1
    split at p1
    · rename_i d hd
      split at p1
      · rename_i ht
        refine ⟨isTy_v ht (S1.rdb r1 hd) S1.zh, Z1, ρ1, S1, Post.bind p1 fun vs as ρ2 Z2 H2 e2 S2 r2 p2 => ?_⟩
        unfold met1 at p2
        split at p2
        · rename_i d' ds hd' hds
          split at p2
          · rename_i R hR
            exact hf x d' vs ds R Z2 H2 Q S2.zh (S2.rdb (r1.mono (ρ' := ρ2) (H' := H2) e2) hd') (S2.rdbs r2 hds) hR fun v Z' H' g h => p2.fin S2 g h
          · exact p2.elim
        · exact p2.elim
      · exact p1.elim
    · exact p1.elim
theorem rd_bm0 (pa : PlainAttrs T) (slot : Slot T name id) (hty : typeOf (.builtin id) = pure (.type "method_descriptor")) (hm : MtR X id r) (hf : MetS X.K r f) (ho : ED X G B o oo)
    (hbase : attributeBase o name X.env (eval o X.env) = eval o X.env := by rfl) (hline : (apos.endLine == cpos.line) = true := by rfl) : RD X G B (.Call (.Attribute o name apos) [] [] cpos) (oBM0 T f oo) :=
  pe_imp (pe_bm0 pa slot hty hm ho hbase hline) fun σ H Q w => run_imp w fun x va ρ1 Z1 H1 S1 r1 p1 => by
    unfold ty1 at p1
    split at p1
    · rename_i d hd
      split at p1
      · rename_i ht
        refine ⟨isTy_v ht (S1.rdb r1 hd) S1.zh, ?_⟩
        unfold met1 at p1
        split at p1
        · rename_i d' ds hd' hds
          split at p1
          · rename_i R hR
            cases hds
            exact hf x d' [] [] R Z1 H1 Q S1.zh (S1.rdb r1 hd') .nil hR fun v Z' H' g h => p1.fin S1 g h
          · exact p1.elim
        · exact p1.elim
      · exact p1.elim
    · exact p1.elim
end
end Ow
namespace Ow
open PySem L2
theorem Paired.one {α β : Type} {G : α → β → Prop} {vs : List α} {d : β} (h : Paired G vs [d]) : ∃ v, vs = [v] ∧ G v d := by
  cases h with
  | cons h1 h2 => cases h2; exact ⟨_, rfl, h1⟩
theorem Paired.two {α β : Type} {G : α → β → Prop} {vs : List α} {d e : β} (h : Paired G vs [d, e]) : ∃ v w, vs = [v, w] ∧ G v d ∧ G w e := by
  cases h with
  | cons h1 h2 => obtain ⟨w, rfl, h3⟩ := Paired.one h2; exact ⟨_, _, rfl, h1, h3⟩
def intsOf : List D → Option (List Int)
  | [] => some []
  | .int i :: r => (intsOf r).map (i :: ·)
  | _ :: _ => none
def strsOf : List D → Option (List Str)
  | [] => some []
  | .str i :: r => (strsOf r).map (i :: ·)
  | _ :: _ => none
def boolsOf : List D → Option (List Bool)
  | [] => some []
  | .bool i :: r => (boolsOf r).map (i :: ·)
  | _ :: _ => none
theorem intsOf_eq : ∀ {ds : List D} {ns : List Int}, intsOf ds = some ns → ds = ns.map PyData.int
  | [], _, h => by cases h; rfl
  | d :: r, ns, h => by
    unfold intsOf at h
    split at h
    · rename_i e; cases e
    · rename_i i r' e
      cases e
      cases q : intsOf r with
      | none => rw [q] at h; cases h
      | some ms => rw [q] at h; cases h; rw [intsOf_eq q]; rfl
    · cases h
theorem strsOf_eq : ∀ {ds : List D} {ns : List Str}, strsOf ds = some ns → ds = ns.map PyData.str
  | [], _, h => by cases h; rfl
  | d :: r, ns, h => by
    unfold strsOf at h
    split at h
    · rename_i e; cases e
    · rename_i i r' e
      cases e
      cases q : strsOf r with
      | none => rw [q] at h; cases h
      | some ms => rw [q] at h; cases h; rw [strsOf_eq q]; rfl
    · cases h
theorem boolsOf_eq : ∀ {ds : List D} {ns : List Bool}, boolsOf ds = some ns → ds = ns.map PyData.bool
  | [], _, h => by cases h; rfl
  | d :: r, ns, h => by
    unfold boolsOf at h
    split at h
    · rename_i e; cases e
    · rename_i i r' e
      cases e
      cases q : boolsOf r with
      | none => rw [q] at h; cases h
      | some ms => rw [q] at h; cases h; rw [boolsOf_eq q]; rfl
    · cases h
@[simp] theorem intsOf_map (ns : List Int) : intsOf (ns.map PyData.int) = some ns := by
  induction ns with
  | nil => rfl
  | cons n r ih => simp [intsOf, ih]
@[simp] theorem strsOf_map (ns : List Str) : strsOf (ns.map PyData.str) = some ns := by
  induction ns with
  | nil => rfl
  | cons n r ih => simp [strsOf, ih]
@[simp] theorem boolsOf_map (ns : List Bool) : boolsOf (ns.map PyData.bool) = some ns := by
  induction ns with
  | nil => rfl
  | cons n r ih => simp [boolsOf, ih]
/-! ### len -/
def fLen : D → Option Nat
  | .str x => if x.length ≤ 16000000 then some x.length else none
  | .list xs => some xs.length
  | .tuple xs => some xs.length
  | .dict [(.none, .list xs)] => some xs.length
  | .dict [(.bool true, .tuple xs)] => some xs.length
  | _ => none
def len1 (a : Va) (ρ : Rho) : M Rs := match rdV ρ a with
  | some d => match fLen d with
    | some n => .ok (.pu (.int n)) ρ
    | none => .st
  | none => match a with
    | .rf i => match ρ[i]? with
      | some (.ow _ (.dk kvs)) => .ok (.pu (.int kvs.length)) ρ
      | _ => .st
    | _ => .st
def oLen (o : O Va) : O Rs := fun ρ => (o ρ).bind len1
@[simp] theorem len1_pu (d : D) (ρ : Rho) : len1 (.pu d) ρ = match fLen d with | some n => .ok (.pu (.int n)) ρ | none => .st := by
  unfold len1
  rw [rdV_pu]
theorem CallR.or {X : Cx} {f : Value} {r r' : List V → Hp → VK → Prop} (h : CallR X f r) (h' : CallR X f r') : CallR X f (fun x H Q => r x H Q ∨ r' x H Q) :=
  fun pins s σ H xs us Q I q w => w.elim (h pins s σ H xs us Q I q) (h' pins s σ H xs us Q I q)
section
variable {X : Cx} {G : Gm} {B : Wish} {p pos : Pos} {e e2 : Expr} {es : List Expr} {oa ob : O Va}
theorem rd_len (hg : Gl X "len") (hm : X.mg "len" = none) (ha : ED X G B e oa) (hs : starEach [e] X.env = (false, eval e X.env) :: starEach [] X.env := by rfl) : RD X G B (.Call (.Name "len" p) [e] [] pos) (oLen oa) :=
  pe_imp (pe_callB (CallR.or call_len call_lenD) hg hm PySem.boot_len (pa_cons ha pa_nil hs) (he := hs) (hpl := rfl)) fun σ H Q w => run_imp w fun x va ρ1 Z1 H1 S1 r1 p1 => by
    unfold len1 at p1
    split at p1
    · rename_i d hd
      have rd := S1.rdb r1 hd
      split at p1
      · rename_i n hn
        refine .inl ⟨x, n, rfl, ?_, p1.fin S1 (.refl S1.zh) (.int _)⟩
        unfold fLen at hn
        split at hn
        · split at hn
          · cases hn; rw [rd.str]; exact ⟨lim_le ‹_›, rfl⟩
          · cases hn
        · cases hn
          obtain ⟨b, vs, rfl, hb, rb⟩ := rd.list S1.zh
          exact .inl ⟨vs, SqL.of hb, rb.length.symm⟩
        · cases hn
          obtain ⟨b, vs, rfl, hb, rb, _⟩ := rd.tup S1.zh
          exact .inr ⟨vs, SqT.of hb, rb.length.symm⟩
        · cases hn
          obtain ⟨b, vs, rfl, hb, rb⟩ := rd.scr S1.zh
          exact .inl ⟨vs, hb, rb.length.symm⟩
        · cases hn
          obtain ⟨b, vs, rfl, hb, rb⟩ := rd.kon S1.zh
          exact .inr ⟨vs, hb, rb.length.symm⟩
        · cases hn
      · exact p1.elim
    · split at p1
      · rename_i i _
        split at p1
        · rename_i pn kvs hr
          obtain ⟨b, o, q1, ho, r, _⟩ := S1.ow i _ _ hr
          have q' : σ[i]? = some (some x) := r1
          rw [q1] at q'; cases q'
          cases o with
          | dK vs =>
            refine .inr ⟨b, vs, rfl, ho, ?_⟩
            have hl : vs.length = kvs.length := Paired.length (show KvR X.K Z1 vs kvs from r)
            rw [hl]
            exact p1.fin S1 (.refl S1.zh) (.int _)
          | _ => exact r.elim
        · exact p1.elim
      · exact p1.elim
end
/-! ### list(..), tuple(..) -/
def fList : List D → Option Rs
  | [.list xs] => some (.nw (.li xs))
  | [.tuple xs] => some (.nw (.li xs))
  | [.dict [(.none, .list xs)]] => some (.nw (.li xs))
  | _ => none
def fTuple : List D → Option Rs
  | [.list xs] => some (.pu (.tuple xs))
  | [.tuple xs] => some (.pu (.tuple xs))
  | _ => none
def fInt1 : List D → Option Rs
  | [.int i] => some (.pu (.int i))
  | [.bool b] => some (.pu (.int (if b then 1 else 0)))
  | _ => none
def fAbs : List D → Option Rs
  | [.int i] => some (.pu (.int (if i < 0 then -i else i)))
  | _ => none
def fMax2 : List D → Option Rs
  | [.int i, .int j] => some (.pu (.int (if j > i then j else i)))
  | _ => none
def fMin2 : List D → Option Rs
  | [.int i, .int j] => some (.pu (.int (if j < i then j else i)))
  | _ => none
def fStr1 : List D → Option Rs
  | [.int i] => if i.natAbs.log2 < 1920 then some (.pu (.str (toString i : String))) else none
  | _ => none
def maxI : List Int → Int
  | [] => 0
  | [x] => x
  | x :: r => if maxI r > x then maxI r else x
def minI : List Int → Int
  | [] => 0
  | [x] => x
  | x :: r => if minI r < x then minI r else x
def fSum : List D → Option Rs
  | [.list xs] => (intsOf xs).map fun ns => .pu (.int ns.sum)
  | _ => none
def fAll : List D → Option Rs
  | [.list xs] => (boolsOf xs).map fun ns => .pu (.bool (ns.all id))
  | _ => none
def fAny : List D → Option Rs
  | [.list xs] => (boolsOf xs).map fun ns => .pu (.bool (ns.any id))
  | _ => none
def fMax1 : List D → Option Rs
  | [.list xs] => match intsOf xs with
    | some (n :: ns) => some (.pu (.int (maxI (n :: ns))))
    | _ => none
  | _ => none
def fMin1 : List D → Option Rs
  | [.list xs] => match intsOf xs with
    | some (n :: ns) => some (.pu (.int (minI (n :: ns))))
    | _ => none
  | _ => none
def sortI (ns : List Int) : List Int := ns.mergeSort (fun a b => decide (a ≤ b))
def fSorted : List D → Option Rs
  | [.list xs] => (intsOf xs).map fun ns => .nw (.li ((sortI ns).map PyData.int))
  | _ => none
theorem maxI_ge : ∀ {ns : List Int}, ∀ y ∈ ns, y ≤ maxI ns
  | [x], y, h => by simp at h; simp [maxI, h]
  | x :: z :: r, y, h => by
    have ih := maxI_ge (ns := z :: r)
    unfold maxI
    rcases List.mem_cons.mp h with h | h
    · subst h; split <;> omega
    · have := ih y h; split <;> omega
theorem maxI_mem : ∀ {ns : List Int}, ns ≠ [] → maxI ns ∈ ns
  | [x], _ => by simp [maxI]
  | x :: z :: r, _ => by
    have ih := maxI_mem (ns := z :: r) (by simp)
    unfold maxI
    split
    · exact List.mem_cons_of_mem _ ih
    · exact List.mem_cons_self
theorem minI_le : ∀ {ns : List Int}, ∀ y ∈ ns, minI ns ≤ y
  | [x], y, h => by simp at h; simp [minI, h]
  | x :: z :: r, y, h => by
    have ih := minI_le (ns := z :: r)
    unfold minI
    rcases List.mem_cons.mp h with h | h
    · subst h; split <;> omega
    · have := ih y h; split <;> omega
theorem minI_mem : ∀ {ns : List Int}, ns ≠ [] → minI ns ∈ ns
  | [x], _ => by simp [minI]
  | x :: z :: r, _ => by
    have ih := minI_mem (ns := z :: r) (by simp)
    unfold minI
    split
    · exact List.mem_cons_of_mem _ ih
    · exact List.mem_cons_self
theorem sorted_unique : ∀ {l m : List Int}, l.Perm m → l.Pairwise (· ≤ ·) → m.Pairwise (· ≤ ·) → l = m
  | [], m, p, _, _ => by rw [List.nil_perm.mp p]
  | x :: l, [], p, _, _ => by have := p.length_eq; simp at this
  | x :: l, y :: m, p, h1, h2 => by
    have hx : x ∈ y :: m := p.mem_iff.mp List.mem_cons_self
    have hy : y ∈ x :: l := p.mem_iff.mpr List.mem_cons_self
    have e : x = y := by
      rcases List.mem_cons.mp hx with e | hx'
      · exact e
      · rcases List.mem_cons.mp hy with e | hy'
        · exact e.symm
        · have a := (List.pairwise_cons.mp h1).1 y hy'
          have b := (List.pairwise_cons.mp h2).1 x hx'
          omega
    subst e
    rw [sorted_unique (List.Perm.cons_inv p) (List.pairwise_cons.mp h1).2 (List.pairwise_cons.mp h2).2]
theorem sortI_perm (ns : List Int) : (sortI ns).Perm ns := List.mergeSort_perm ns _
theorem sortI_sorted (ns : List Int) : (sortI ns).Pairwise (· ≤ ·) := by
  have h := List.pairwise_mergeSort (le := fun (a b : Int) => decide (a ≤ b)) (fun a b c h1 h2 => by simp at *; omega) (fun a b => by simp; omega) ns
  exact h.imp fun h => of_decide_eq_true h
section
variable {K : PySem.W.Frag}
theorem callS_list : CallS K (fun xs H Q => ∃ p ys, xs = [.ref p] ∧ (SqL K H p ys ∨ SqT K H p ys) ∧ ∀ l, H l = none → Q (.ref l) (upd H l (.lst ys))) fList := by
  intro vs ds R Z H Q e r hf k
  unfold fList at hf
  split at hf
  · cases hf
    obtain ⟨v, rfl, r1⟩ := Paired.one r
    obtain ⟨b, ws, rfl, hb, rb⟩ := r1.list e
    exact ⟨b, ws, rfl, .inl (SqL.of hb), fun l hl => k _ Z _ (.loose e hl _) ⟨l, _, rfl, hl, none_of_same e hl, upd_same, rb⟩⟩
  · cases hf
    obtain ⟨v, rfl, r1⟩ := Paired.one r
    obtain ⟨b, ws, rfl, hb, rb, _⟩ := r1.tup e
    exact ⟨b, ws, rfl, .inr (SqT.of hb), fun l hl => k _ Z _ (.loose e hl _) ⟨l, _, rfl, hl, none_of_same e hl, upd_same, rb⟩⟩
  · cases hf
    obtain ⟨v, rfl, r1⟩ := Paired.one r
    obtain ⟨b, ws, rfl, hb, rb⟩ := r1.scr e
    exact ⟨b, ws, rfl, .inl hb, fun l hl => k _ Z _ (.loose e hl _) ⟨l, _, rfl, hl, none_of_same e hl, upd_same, rb⟩⟩
  · cases hf
theorem callS_tuple : CallS K (fun xs H Q => ∃ p ys, xs = [.ref p] ∧ ((SqL K H p ys ∧ ∀ l, H l = none → Q (.ref l) (upd H l (.tup ys))) ∨ (SqT K H p ys ∧ Q (.ref p) H))) fTuple := by
  intro vs ds R Z H Q e r hf k
  unfold fTuple at hf
  split at hf
  · cases hf
    obtain ⟨v, rfl, r1⟩ := Paired.one r
    obtain ⟨b, ws, rfl, hb, rb⟩ := r1.list e
    refine ⟨b, ws, rfl, .inl ⟨SqL.of hb, fun l hl => ?_⟩⟩
    have g := Grow.still e hl (.tup ws)
    exact k _ _ _ g (.tup upd_same (RpAll.mono rb g.z))
  · cases hf
    obtain ⟨v, rfl, r1⟩ := Paired.one r
    obtain ⟨b, ws, rfl, hb, rb, q⟩ := r1.tup e
    exact ⟨b, ws, rfl, .inr ⟨SqT.of hb, k _ Z H (.refl e) q⟩⟩
  · cases hf
theorem callS_int : CallS K (fun xs H Q => (∃ i, xs = [.int i] ∧ Q (.int i) H) ∨ ∃ k, xs = [.bl k] ∧ Q (.int (if k then 1 else 0)) H) fInt1 := by
  intro vs ds R Z H Q e r hf k
  unfold fInt1 at hf
  split at hf
  · cases hf
    obtain ⟨v, rfl, r1⟩ := Paired.one r
    rw [r1.int]
    exact .inl ⟨_, rfl, k _ Z H (.refl e) (.int _)⟩
  · cases hf
    obtain ⟨v, rfl, r1⟩ := Paired.one r
    rw [r1.bl]
    exact .inr ⟨_, rfl, k _ Z H (.refl e) (.int _)⟩
  · cases hf
theorem callS_abs : CallS K (fun xs H Q => ∃ i, xs = [.int i] ∧ Q (.int (if i < 0 then -i else i)) H) fAbs := by
  intro vs ds R Z H Q e r hf k
  unfold fAbs at hf
  split at hf
  · cases hf
    obtain ⟨v, rfl, r1⟩ := Paired.one r
    rw [r1.int]
    exact ⟨_, rfl, k _ Z H (.refl e) (.int _)⟩
  · cases hf
theorem callS_str : CallS K (fun xs H Q => ∃ i, xs = [.int i] ∧ i.natAbs.log2 < 1920 ∧ Q (.str (toString i : String)) H) fStr1 := by
  intro vs ds R Z H Q e r hf k
  unfold fStr1 at hf
  split at hf
  · split at hf
    · cases hf
      obtain ⟨v, rfl, r1⟩ := Paired.one r
      rw [r1.int]
      exact ⟨_, rfl, ‹_›, k _ Z H (.refl e) (.str _)⟩
    · cases hf
  · cases hf
theorem callS_max2 : CallS K (fun xs H Q => ∃ i j, xs = [.int i, .int j] ∧ Q (.int (if j > i then j else i)) H) fMax2 := by
  intro vs ds R Z H Q e r hf k
  unfold fMax2 at hf
  split at hf
  · cases hf
    obtain ⟨v, w, rfl, r1, r2⟩ := Paired.two r
    rw [r1.int, r2.int]
    exact ⟨_, _, rfl, k _ Z H (.refl e) (.int _)⟩
  · cases hf
theorem callS_min2 : CallS K (fun xs H Q => ∃ i j, xs = [.int i, .int j] ∧ Q (.int (if j < i then j else i)) H) fMin2 := by
  intro vs ds R Z H Q e r hf k
  unfold fMin2 at hf
  split at hf
  · cases hf
    obtain ⟨v, w, rfl, r1, r2⟩ := Paired.two r
    rw [r1.int, r2.int]
    exact ⟨_, _, rfl, k _ Z H (.refl e) (.int _)⟩
  · cases hf
theorem ints_arg {Z H : Hp} {vs : List V} {xs : List D} {ns : List Int} (e : Same Z H) (r : Paired (Rdb K Z H) vs [.list xs]) (h : intsOf xs = some ns) : ∃ a, vs = [.ref a] ∧ SqL K H a (ns.map V.int) := by
  obtain ⟨v, rfl, r1⟩ := Paired.one r
  obtain ⟨b, ws, rfl, hb, rb⟩ := r1.list e
  rw [intsOf_eq h] at rb
  rw [rb.of_ints] at hb
  exact ⟨b, rfl, SqL.of hb⟩
theorem bools_arg {Z H : Hp} {vs : List V} {xs : List D} {ns : List Bool} (e : Same Z H) (r : Paired (Rdb K Z H) vs [.list xs]) (h : boolsOf xs = some ns) : ∃ a, vs = [.ref a] ∧ SqL K H a (ns.map V.bl) := by
  obtain ⟨v, rfl, r1⟩ := Paired.one r
  obtain ⟨b, ws, rfl, hb, rb⟩ := r1.list e
  rw [boolsOf_eq h] at rb
  rw [rb.of_bools] at hb
  exact ⟨b, rfl, SqL.of hb⟩
theorem callS_sum : CallS K (rSum K) fSum := by
  intro vs ds R Z H Q e r hf k
  unfold fSum at hf
  split at hf
  · rename_i xs
    cases q : intsOf xs with
    | none => rw [q] at hf; cases hf
    | some ns =>
      rw [q] at hf; cases hf
      obtain ⟨a, rfl, ha⟩ := ints_arg e r q
      exact ⟨a, ns, rfl, ha, k _ Z H (.refl e) (.int _)⟩
  · cases hf
theorem callS_all : CallS K (rAll K) fAll := by
  intro vs ds R Z H Q e r hf k
  unfold fAll at hf
  split at hf
  · rename_i xs
    cases q : boolsOf xs with
    | none => rw [q] at hf; cases hf
    | some ns =>
      rw [q] at hf; cases hf
      obtain ⟨a, rfl, ha⟩ := bools_arg e r q
      exact ⟨a, ns, rfl, ha, k _ Z H (.refl e) (.bl _)⟩
  · cases hf
theorem callS_any : CallS K (rAny K) fAny := by
  intro vs ds R Z H Q e r hf k
  unfold fAny at hf
  split at hf
  · rename_i xs
    cases q : boolsOf xs with
    | none => rw [q] at hf; cases hf
    | some ns =>
      rw [q] at hf; cases hf
      obtain ⟨a, rfl, ha⟩ := bools_arg e r q
      exact ⟨a, ns, rfl, ha, k _ Z H (.refl e) (.bl _)⟩
  · cases hf
theorem callS_max1 : CallS K (rMax K) fMax1 := by
  intro vs ds R Z H Q e r hf k
  unfold fMax1 at hf
  split at hf
  · rename_i xs
    split at hf
    · rename_i n ns q
      cases hf
      obtain ⟨a, rfl, ha⟩ := ints_arg e r q
      refine ⟨a, n :: ns, rfl, ha, by simp, fun m hm hle => ?_⟩
      have e1 : m = maxI (n :: ns) := by
        have h1 := maxI_ge m hm
        have h2 := hle _ (maxI_mem (ns := n :: ns) (by simp))
        omega
      rw [e1]
      exact k _ Z H (.refl e) (.int _)
    · cases hf
  · cases hf
theorem callS_min1 : CallS K (rMin K) fMin1 := by
  intro vs ds R Z H Q e r hf k
  unfold fMin1 at hf
  split at hf
  · rename_i xs
    split at hf
    · rename_i n ns q
      cases hf
      obtain ⟨a, rfl, ha⟩ := ints_arg e r q
      refine ⟨a, n :: ns, rfl, ha, by simp, fun m hm hle => ?_⟩
      have e1 : m = minI (n :: ns) := by
        have h1 := minI_le m hm
        have h2 := hle _ (minI_mem (ns := n :: ns) (by simp))
        omega
      rw [e1]
      exact k _ Z H (.refl e) (.int _)
    · cases hf
  · cases hf
theorem callS_sorted : CallS K (rSortedI K) fSorted := by
  intro vs ds R Z H Q e r hf k
  unfold fSorted at hf
  split at hf
  · rename_i xs
    cases q : intsOf xs with
    | none => rw [q] at hf; cases hf
    | some ns =>
      rw [q] at hf; cases hf
      obtain ⟨a, rfl, ha⟩ := ints_arg e r q
      refine ⟨a, ns, rfl, ha, fun ms p pm so hp => ?_⟩
      have e1 : ms = sortI ns := sorted_unique (pm.trans (sortI_perm ns).symm) so (sortI_sorted ns)
      rw [e1]
      exact k _ Z _ (.loose e hp _) ⟨p, _, rfl, hp, none_of_same e hp, upd_same, .ints _⟩
  · cases hf
end
/-! ### texts -/
def fJoin : D → List D → Option Rs
  | .str a, [.list xs] => match strsOf xs with
    | some ys => if (ys.map (·.length)).sum + ys.length * a.length ≤ 16000000 then some (.pu (.str (Txt.join a ys))) else none
    | none => none
  | .str a, [.tuple xs] => match strsOf xs with
    | some ys => if (ys.map (·.length)).sum + ys.length * a.length ≤ 16000000 then some (.pu (.str (Txt.join a ys))) else none
    | none => none
  | _, _ => none
def fSplit : D → List D → Option Rs
  | .str a, [.str b] => if (b.length == 0) = false ∧ a.length + 2 ≤ 16000000 then some (.nw (.li ((Txt.split a b).map PyData.str))) else none
  | _, _ => none
section
variable {K : PySem.W.Frag}
theorem metS_join : MetS K (fun x xs H Q => ∃ a p, ∃ ys : List Str, x = .str a ∧ xs = [.ref p] ∧ (SqL K H p (ys.map V.str) ∨ SqT K H p (ys.map V.str)) ∧
    (ys.map (·.length)).sum + ys.length * a.length ≤ 16777216 ∧ Q (.str (Txt.join a ys)) H) fJoin := by
  intro x d vs ds R Z H Q e rx r hf k
  unfold fJoin at hf
  split at hf
  · rename_i a xs
    split at hf
    · rename_i ys hy
      split at hf
      · cases hf
        obtain ⟨v, rfl, r1⟩ := Paired.one r
        obtain ⟨b, ws, rfl, hb, rb⟩ := r1.list e
        rw [strsOf_eq hy] at rb
        rw [rb.of_strs] at hb
        exact ⟨a, b, ys, rx.str, rfl, .inl (SqL.of hb), by omega, k _ Z H (.refl e) (.str _)⟩
      · cases hf
    · cases hf
  · rename_i a xs
    split at hf
    · rename_i ys hy
      split at hf
      · cases hf
        obtain ⟨v, rfl, r1⟩ := Paired.one r
        obtain ⟨b, ws, rfl, hb, rb, _⟩ := r1.tup e
        rw [strsOf_eq hy] at rb
        rw [rb.of_strs] at hb
        exact ⟨a, b, ys, rx.str, rfl, .inr (SqT.of hb), by omega, k _ Z H (.refl e) (.str _)⟩
      · cases hf
    · cases hf
  · cases hf
theorem metS_split : MetS K (fun x xs H Q => ∃ a b, x = .str a ∧ xs = [.str b] ∧ (b.length == 0) = false ∧ a.length + 2 ≤ sizeLine ∧ rNewStrs (Txt.split a b) H Q) fSplit := by
  intro x d vs ds R Z H Q e rx r hf k
  unfold fSplit at hf
  split at hf
  · rename_i a b
    split at hf
    · rename_i h
      cases hf
      obtain ⟨v, rfl, r1⟩ := Paired.one r
      rw [rx.str, r1.str]
      exact ⟨a, b, rfl, rfl, h.1, lim_le h.2, fun p hp => k _ Z _ (.loose e hp _) ⟨p, _, rfl, hp, none_of_same e hp, upd_same, .strs _⟩⟩
    · cases hf
  · cases hf
end
end Ow
namespace Ow
open PySem L2
/-! ### statements -/
inductive Mo where
  | st
  | nx (ρ : Rho)
  | rt (r : Rs) (ρ : Rho)
  | bk (ρ : Rho)
  | ct (ρ : Rho)
  | ex (x : Xn) (ρ : Rho)
abbrev Os := Rho → Mo
def M.bindS {α : Type} (m : M α) (f : α → Rho → Mo) : Mo := match m with
  | .st => .st
  | .ok a ρ => f a ρ
  | .ex x ρ => .ex x ρ
@[simp] theorem M.bindS_ok {α : Type} (a : α) (ρ : Rho) (f : α → Rho → Mo) : (M.ok a ρ).bindS f = f a ρ := rfl
@[simp] theorem M.bindS_st {α : Type} (f : α → Rho → Mo) : (M.st : M α).bindS f = .st := rfl
@[simp] theorem M.bindS_ex {α : Type} (x : Xn) (ρ : Rho) (f : α → Rho → Mo) : (M.ex x ρ : M α).bindS f = .ex x ρ := rfl
def Mo.then (m : Mo) (f : Os) : Mo := match m with
  | .nx ρ => f ρ
  | m => m
@[simp] theorem Mo.then_nx (ρ : Rho) (f : Os) : (Mo.nx ρ).then f = f ρ := rfl
@[simp] theorem Mo.then_st (f : Os) : (Mo.st).then f = .st := rfl
@[simp] theorem Mo.then_rt (r : Rs) (ρ : Rho) (f : Os) : (Mo.rt r ρ).then f = .rt r ρ := rfl
@[simp] theorem Mo.then_bk (ρ : Rho) (f : Os) : (Mo.bk ρ).then f = .bk ρ := rfl
@[simp] theorem Mo.then_ct (ρ : Rho) (f : Os) : (Mo.ct ρ).then f = .ct ρ := rfl
@[simp] theorem Mo.then_ex (x : Xn) (ρ : Rho) (f : Os) : (Mo.ex x ρ).then f = .ex x ρ := rfl
section
variable (K : PySem.W.Frag) (G : Gm) (B : Wish)
def PostS (Z : Hp) (m : Mo) (D : Ends) : Prop := match m with
  | .st => False
  | .nx ρ => ∀ σ Z' H', Same Z Z' → Sim K G Z' ρ σ H' → D.nx σ H'
  | .bk ρ => ∀ σ Z' H', Same Z Z' → Sim K G Z' ρ σ H' → D.bk σ H'
  | .ct ρ => ∀ σ Z' H', Same Z Z' → Sim K G Z' ρ σ H' → D.ct σ H'
  | .rt r ρ => ∀ v σ Z' H', Same Z Z' → Sim K G Z' ρ σ H' → RsR K G Z' ρ σ H' v r → D.rt v H'
  | .ex x ρ => ∀ σ Z' H', Same Z Z' → Sim K G Z' ρ σ H' → B x ρ Z' σ H'
def RunS (o : Os) : TS := fun D σ H => ∃ Z ρ, Sim K G Z ρ σ H ∧ PostS K G B Z (o ρ) D
end
def SD (X : Cx) (G : Gm) (B : Wish) (st : Stmt) (o : Os) : Prop := PS X st (RunS X.K G B o)
def BD (X : Cx) (G : Gm) (B : Wish) (st : List Stmt) (o : Os) : Prop := PSs X st (RunS X.K G B o)
theorem PostS.mono {K : PySem.W.Frag} {G : Gm} {B : Wish} {Z Z1 : Hp} {m : Mo} {D : Ends} (h : PostS K G B Z m D) (e : Same Z Z1) : PostS K G B Z1 m D := by
  cases m with
  | st => exact h
  | nx ρ => exact fun σ Z' H' e' => h σ Z' H' (e.trans e')
  | bk ρ => exact fun σ Z' H' e' => h σ Z' H' (e.trans e')
  | ct ρ => exact fun σ Z' H' e' => h σ Z' H' (e.trans e')
  | rt r ρ => exact fun v σ Z' H' e' => h v σ Z' H' (e.trans e')
  | ex x ρ => exact fun σ Z' H' e' => h σ Z' H' (e.trans e')
theorem PostS.bind {K : PySem.W.Frag} {G : Gm} {B : Wish} {α β : Type} {R : Rel α β} {σ : St} {Z : Hp} {m : M α} {f : α → Rho → Mo} {D : Ends} {C : β → Hp → Prop} (h : PostS K G B Z (m.bindS f) D)
    (k : ∀ x a ρ1 Z1 H1, Same Z Z1 → Sim K G Z1 ρ1 σ H1 → R Z1 ρ1 σ H1 x a → PostS K G B Z1 (f a ρ1) D → C x H1) : Post K G B R σ Z m C := by
  cases m with
  | st => exact h
  | ex x ρ => exact fun Z' H' e S => h σ Z' H' e S
  | ok a ρ1 =>
    intro v Z' H' e S r
    exact k v a ρ1 Z' H' e S r (PostS.mono (m := f a ρ1) h e)
theorem runS_bind {K : PySem.W.Frag} {G : Gm} {B : Wish} {α β : Type} {R : Rel α β} {σ : St} {H : Hp} {o : O α} {f : α → Rho → Mo} {D : Ends} {C : β → Hp → Prop} (h : RunS K G B (fun ρ => (o ρ).bindS f) D σ H)
    (k : ∀ x a ρ1 Z1 H1, Sim K G Z1 ρ1 σ H1 → R Z1 ρ1 σ H1 x a → PostS K G B Z1 (f a ρ1) D → C x H1) : Run K G B R o σ H C := by
  obtain ⟨Z, ρ, S, p⟩ := h
  exact ⟨Z, ρ, S, PostS.bind p fun x a ρ1 Z1 H1 _ S1 r p1 => k x a ρ1 Z1 H1 S1 r p1⟩
def oSeq (a b : Os) : Os := fun ρ => (a ρ).then b
def oNext : Os := fun ρ => .nx ρ
def oBreak : Os := fun ρ => .bk ρ
def oCont : Os := fun ρ => .ct ρ
def oDrop {α : Type} (o : O α) : Os := fun ρ => (o ρ).bindS fun _ ρ1 => .nx ρ1
def oRet (o : O Rs) : Os := fun ρ => (o ρ).bindS fun r ρ1 => .rt r ρ1
def oRetN : Os := fun ρ => .rt (.pu .none) ρ
def oRetV (i : Nat) : Os := fun ρ => match ρ[i]? with
  | some (.pu d) => .rt (.pu d) ρ
  | some (.ow false c) => .rt (.nw c) (ρ.set i .no)
  | _ => .st
def oIfS (c : O Bool) (a b : Os) : Os := fun ρ => (c ρ).bindS fun t ρ1 => if t = true then a ρ1 else b ρ1
section
variable {X : Cx} {G : Gm} {B : Wish} {st : Stmt} {rest : List Stmt} {a b : Os} {e c : Expr} {pos : Pos}
theorem seq_post {K : PySem.W.Frag} {Z : Hp} {m : Mo} {b : Os} {D : Ends} (h : PostS K G B Z (m.then b) D) : PostS K G B Z m { D with nx := fun σ H => RunS K G B b D σ H } := by
  cases m with
  | nx ρ => exact fun σ Z' H' e S => ⟨Z', ρ, S, PostS.mono (m := b ρ) h e⟩
  | st => exact h
  | bk ρ => exact h
  | ct ρ => exact h
  | rt r ρ => exact h
  | ex x ρ => exact h
theorem bd_nil : BD X G B [] oNext := pss_imp pss_nil fun D σ H ⟨Z, ρ, S, p⟩ => p σ Z H (.refl _) S
theorem bd_one (h : SD X G B st a) : BD X G B [st] a := pss_one h
theorem bd_cons (h : SD X G B st a) (h' : BD X G B rest b) : BD X G B (st :: rest) (oSeq a b) :=
  pss_imp (pss_cons h h') fun D σ H ⟨Z, ρ, S, p⟩ => ⟨Z, ρ, S, seq_post p⟩
theorem sd_pass : SD X G B (.Pass pos) oNext := ps_imp ps_pass fun D σ H ⟨Z, ρ, S, p⟩ => p σ Z H (.refl _) S
theorem sd_break : SD X G B (.Break pos) oBreak := ps_imp ps_break fun D σ H ⟨Z, ρ, S, p⟩ => p σ Z H (.refl _) S
theorem sd_continue : SD X G B (.Continue pos) oCont := ps_imp ps_continue fun D σ H ⟨Z, ρ, S, p⟩ => p σ Z H (.refl _) S
theorem sd_expr {o : O Va} (h : ED X G B e o) (hs : swapsWith e none pos.line X.env = pure false := by rfl) : SD X G B (.Expr e pos) (oDrop o) :=
  ps_imp (ps_expr h hs) fun D σ H w => runS_bind w fun x r ρ1 Z1 H1 S1 q p1 => p1 σ Z1 H1 (.refl _) S1
theorem sd_exprR {o : O Rs} (h : RD X G B e o) (hs : swapsWith e none pos.line X.env = pure false := by rfl) : SD X G B (.Expr e pos) (oDrop o) :=
  ps_imp (ps_expr h hs) fun D σ H w => runS_bind w fun x r ρ1 Z1 H1 S1 q p1 => p1 σ Z1 H1 (.refl _) S1
theorem sd_ret {o : O Rs} (h : RD X G B e o) : SD X G B (.Return (some e) pos) (oRet o) :=
  ps_imp (ps_ret h) fun D σ H w => runS_bind w fun x r ρ1 Z1 H1 S1 q p1 => p1 x σ Z1 H1 (.refl _) S1 q
theorem sd_retN : SD X G B (.Return none pos) oRetN := ps_imp ps_retN fun D σ H ⟨Z, ρ, S, p⟩ => p .non σ Z H (.refl _) S .non
theorem sd_if {o : O Bool} {as bs : List Stmt} (hc : TD X G B c o) (ha : BD X G B as a) (hb : BD X G B bs b) : SD X G B (.If c as bs pos) (oIfS o a b) :=
  ps_imp (ps_if hc ha hb) fun D σ H w => runS_bind w fun x k ρ1 Z1 H1 S1 q p1 => by
    have q : x = k := q
    subst q
    cases x with
    | true => exact ⟨Z1, ρ1, S1, p1⟩
    | false => exact ⟨Z1, ρ1, S1, p1⟩
theorem Sim.drop {K : PySem.W.Frag} {Z : Hp} {ρ : Rho} {σ : St} {H : Hp} (S : Sim K G Z ρ σ H) {i : Nat} {c : Ct} (h : ρ[i]? = some (Sl.ow false c)) : Sim K G Z (ρ.set i .no) σ H := by
  have hi : i < ρ.length := (List.getElem?_eq_some_iff.mp h).1
  have g : ∀ (j : Nat) s, (ρ.set i .no)[j]? = some s → s ≠ .no → j ≠ i ∧ ρ[j]? = some s := fun j s e n => by
    by_cases hj : j = i
    · subst hj; rw [List.getElem?_set_self hi] at e; cases e; exact absurd rfl n
    · rw [List.getElem?_set_ne (Ne.symm hj)] at e; exact ⟨hj, e⟩
  refine ⟨S.zz, S.zh, S.fr, S.nw, fun j d e => S.pu j d (g j _ e (by simp)).2, fun j p c e => S.ow j p c (g j _ e (by simp)).2, fun j k p q c d n e1 e2 => S.ne j k p q c d n (g j _ e1 (by simp)).2 (g k _ e2 (by simp)).2, fun j x hj => ?_, by rw [List.length_set]; exact S.len, S.lx.frame (fun j xss e => ⟨(g j _ e (by simp)).2, rfl⟩) (fun j k m e => ⟨(g j _ e (by simp)).2, rfl⟩) (.refl _) fun b o f z gn w ho => ⟨ho, z, gn, fun j p c e => w j p c (g j _ e (by simp)).2⟩⟩
  obtain ⟨q, c', hc'⟩ := S.pin j x hj
  refine ⟨q, c', ?_⟩
  rw [List.getElem?_set_ne]
  · exact hc'
  · intro e; subst e; rw [h] at hc'; cases hc'
theorem sd_retV (i : Nat) {x : Str} {p : Pos} (hN : X.N[i]? = some x := by rfl) (hv : Vis X.env.scope x := by first | exact Or.inl rfl | exact Or.inr (Or.inl rfl) | exact Or.inr (Or.inr rfl)) (hd : (x == ("__debug__" : Str)) = false := by decide)
    (hcd : (x == ("__classdict__" : Str)) = false := by decide) : SD X G B (.Return (some (.Name x p)) pos) (oRetV i) := by
  refine ps_imp (ps_ret (pe_var (i := i) hN hv hd hcd)) ?_
  rintro D σ H ⟨Z, ρ, S, p⟩
  unfold oRetV at p
  split at p
  · rename_i d h
    obtain ⟨v, q, r⟩ := S.pu i d h
    exact ⟨v, q, p v σ Z H (.refl _) S r⟩
  · rename_i c h
    obtain ⟨a, o, q, ho, r, z, _, n⟩ := S.ow i _ c h
    refine ⟨_, q, p _ σ Z H (.refl _) (S.drop h) ⟨a, o, rfl, ho, r, z, n rfl, fun j b c' hj q' => ?_, fun f => ?_⟩⟩
    rotate_left
    · obtain ⟨j, xss, a', bs, f1, f2, f3, f4⟩ := f
      have hi : i < ρ.length := (List.getElem?_eq_some_iff.mp h).1
      by_cases hj' : j = i
      · subst hj'; rw [List.getElem?_set_self hi] at f1; cases f1
      · rw [List.getElem?_set_ne (Ne.symm hj')] at f1
        exact (S.lx.live ⟨j, xss, a', bs, f1, f2, f3, f4⟩).2.2.2 i _ _ h q
    have hi : i < ρ.length := (List.getElem?_eq_some_iff.mp h).1
    by_cases hj' : j = i
    · subst hj'; rw [List.getElem?_set_self hi] at hj; cases hj
    · rw [List.getElem?_set_ne (Ne.symm hj')] at hj
      exact S.ne j i _ _ _ _ hj' hj h (q'.trans q.symm)
  · exact p.elim
end
/-! ### stores to names -/
def setSl (ρ : Rho) (i : Nat) (s : Sl) : Option Rho := match ρ[i]? with
  | some (.ow true _) => none
  | some _ => some (ρ.set i s)
  | none => none
section
variable {K : PySem.W.Frag} {G : Gm} {Z : Hp} {ρ ρ' : Rho} {σ : St} {H : Hp} {i : Nat} {v : V}
theorem Sim.put (S : Sim K G Z ρ σ H) {s : Sl} (h : setSl ρ i s = some ρ') (hs : match s with
      | .no => True
      | .pu d => Rp K Z v d
      | .ow p c => p = false ∧ ∃ a o, v = V.ref a ∧ H a = some o ∧ CtR K Z o c ∧ Z a = none ∧ G.H0 a = none ∧ NewA ρ σ H a
      | .ll _ => False
      | .al _ _ => False) : Sim K G Z ρ' (σ.set i (some v)) H := by
  unfold setSl at h
  split at h
  · cases h
  · rename_i s0 hp h0
    cases h
    have hi : i < ρ.length := (List.getElem?_eq_some_iff.mp h0).1
    have hi' : i < σ.length := by rw [← S.len]; exact hi
    have nop : ∀ c, ρ[i]? ≠ some (Sl.ow true c) := fun c e => by rw [h0] at e; cases e; exact hp c rfl
    have g : ∀ (j : Nat) t, (ρ.set i s)[j]? = some t → (j = i ∧ t = s) ∨ (j ≠ i ∧ ρ[j]? = some t) := fun j t e => by
      by_cases hj : j = i
      · subst hj; rw [List.getElem?_set_self hi] at e; cases e; exact .inl ⟨rfl, rfl⟩
      · rw [List.getElem?_set_ne (Ne.symm hj)] at e; exact .inr ⟨hj, e⟩
    have gs : ∀ j : Nat, j ≠ i → (σ.set i (some v))[j]? = σ[j]? := fun j hj => by rw [List.getElem?_set_ne (Ne.symm hj)]
    have gi : (σ.set i (some v))[i]? = some (some v) := List.getElem?_set_self hi'
    refine ⟨S.zz, S.zh, S.fr, S.nw, fun j d e => ?_, fun j p c e => ?_, fun j k p q c d n e1 e2 => ?_, fun j x hj => ?_, by rw [List.length_set, List.length_set]; exact S.len, S.lx.frame (fun j xss e => ?_) (fun j k m e => ?_) (.refl _) fun b o f z gn w ho => ⟨ho, z, gn, fun j p c e => ?_⟩⟩
    · rcases g j _ e with ⟨rfl, rfl⟩ | ⟨hj, e⟩
      · exact ⟨v, gi, hs⟩
      · rw [gs j hj]; exact S.pu j d e
    · rcases g j _ e with ⟨rfl, rfl⟩ | ⟨hj, e⟩
      · obtain ⟨rfl, a, o, rfl, ho, r, z, n, _⟩ := hs
        exact ⟨a, o, gi, ho, r, z, (fun q => by cases q), fun _ => n⟩
      · rw [gs j hj]; exact S.ow j p c e
    · rcases g j _ e1 with ⟨rfl, rfl⟩ | ⟨hj, e1'⟩
      · rcases g k _ e2 with ⟨rfl, _⟩ | ⟨hk, e2'⟩
        · exact absurd rfl n
        · obtain ⟨_, a, o, rfl, _, _, _, _, nn⟩ := hs
          rw [gi, gs k hk]
          exact fun e => nn.1 k q d e2' e.symm
      · rcases g k _ e2 with ⟨rfl, rfl⟩ | ⟨hk, e2'⟩
        · obtain ⟨_, a, o, rfl, _, _, _, _, nn⟩ := hs
          rw [gi, gs j hj]
          exact nn.1 j p c e1'
        · rw [gs j hj, gs k hk]
          exact S.ne j k p q c d n e1' e2'
    · obtain ⟨q, c, hc⟩ := S.pin j x hj
      have hj' : j ≠ i := fun e => by subst e; exact nop c hc
      refine ⟨by rw [gs j hj']; exact q, c, ?_⟩
      rw [List.getElem?_set_ne (Ne.symm hj')]
      exact hc
    · rcases g j _ e with ⟨_, rfl⟩ | ⟨hj, e⟩
      · exact hs.elim
      · exact ⟨e, gs j hj⟩
    · rcases g j _ e with ⟨_, rfl⟩ | ⟨hj, e⟩
      · exact hs.elim
      · exact ⟨e, gs j hj⟩
    · rcases g j _ e with ⟨rfl, rfl⟩ | ⟨hj, e⟩
      · obtain ⟨_, a, o, rfl, _, _, _, _, nn⟩ := hs
        rw [gi]
        intro q
        cases q
        exact nn.2 f
      · rw [gs j hj]
        exact w j p c e
  · cases h
end
def Rs.sl : Rs → Sl
  | .pu d => .pu d
  | .nw c => .ow false c
@[simp] theorem Rs.sl_pu (d : D) : (Rs.pu d).sl = .pu d := rfl
@[simp] theorem Rs.sl_nw (c : Ct) : (Rs.nw c).sl = .ow false c := rfl
def nx1 (o : Option Rho) : Mo := match o with
  | some ρ => .nx ρ
  | none => .st
@[simp] theorem nx1_some (ρ : Rho) : nx1 (some ρ) = .nx ρ := rfl
def oSet (i : Nat) (o : O Rs) : Os := fun ρ => (o ρ).bindS fun r ρ1 => nx1 (setSl ρ1 i r.sl)
section
variable {X : Cx} {G : Gm} {B : Wish} {e c : Expr} {pos pos' : Pos}
theorem put_res {K : PySem.W.Frag} {Z : Hp} {ρ ρ' : Rho} {σ : St} {H : Hp} {i : Nat} {v : V} {r : Rs} (S : Sim K G Z ρ σ H) (h : setSl ρ i r.sl = some ρ') (hr : RsR K G Z ρ σ H v r) : Sim K G Z ρ' (σ.set i (some v)) H := by
  refine S.put h ?_
  cases r with
  | pu d => exact hr
  | nw c =>
    obtain ⟨a, o, h1, h2, h3, h4, h5, h6⟩ := hr
    exact ⟨rfl, a, o, h1, h2, h3, h4, h5, h6⟩
theorem asg_name {K : PySem.W.Frag} {i : Nat} {o : O Rs} {D : Ends} {σ : St} {H : Hp} (w : RunS K G B (oSet i o) D σ H) : tAsg (Run K G B (RsR K G) o) (gName i) D σ H :=
  runS_bind (C := fun x H1 => D.nx (σ.set i (some x)) H1) w fun x r ρ1 Z1 H1 S1 q p1 => by
    cases h : setSl ρ1 i r.sl with
    | none => rw [h] at p1; exact p1.elim
    | some ρ' => rw [h] at p1; exact p1 _ Z1 H1 (.refl _) (put_res S1 h q)
theorem sd_set (i : Nat) {x : Str} {o : O Rs} (he : RD X G B e o) (hN : X.N.Nodup) (hi : X.N[i]? = some x := by rfl) (hx : Loc X.env.scope x := by first | exact Or.inl rfl | exact Or.inr rfl) (hs : swapsWith e (some (.Name x pos')) pos.line X.env = pure false := by rfl)
    (hf : X.fn x = true ∨ X.env.scope.names.lookup x = some .local := by first | exact .inl rfl | exact .inr rfl | assumption) : SD X G B (.Assign [.Name x pos'] e pos) (oSet i o) :=
  ps_imp (ps_set hN hi hx he hs hf) fun D σ H w => asg_name w
end
/-! ### targets -/
/-- a target that is given still data -/
def gRun (K : PySem.W.Frag) (G : Gm) (T : List Nat) (g : D → Rho → Option Rho) : TG := fun v σ H Q => ∃ Z ρ d ρ', Sim K G Z ρ σ H ∧ Rp K Z v d ∧ g d ρ = some ρ' ∧ ∀ σ' Z' H', σ'.length = σ.length → (∀ j : Nat, j ∉ T → σ'[j]? = σ[j]?) → Same Z Z' → Sim K G Z' ρ' σ' H' → Q σ' H'
def gsRun (K : PySem.W.Frag) (G : Gm) (T : List Nat) (g : List D → Rho → Option Rho) : TGs := fun vs σ H Q => ∃ Z ρ ds ρ', Sim K G Z ρ σ H ∧ RpAll K Z vs ds ∧ g ds ρ = some ρ' ∧ ∀ σ' Z' H', σ'.length = σ.length → (∀ j : Nat, j ∉ T → σ'[j]? = σ[j]?) → Same Z Z' → Sim K G Z' ρ' σ' H' → Q σ' H'
def GD (X : Cx) (G : Gm) (tg : Expr) (T : List Nat) (g : D → Rho → Option Rho) : Prop := PG X tg (gRun X.K G T g)
def GDs (X : Cx) (G : Gm) (tg : List Expr) (T : List Nat) (g : List D → Rho → Option Rho) : Prop := PGs X tg (gsRun X.K G T g)
def gNm (i : Nat) : D → Rho → Option Rho := fun d ρ => setSl ρ i (.pu d)
def gNl : List D → Rho → Option Rho := fun ds ρ => match ds with
  | [] => some ρ
  | _ => none
def gCn (g : D → Rho → Option Rho) (gs : List D → Rho → Option Rho) : List D → Rho → Option Rho := fun ds ρ => match ds with
  | d :: r => (g d ρ).bind (gs r)
  | [] => none
def gTp (n : Nat) (gs : List D → Rho → Option Rho) : D → Rho → Option Rho := fun d ρ => match d with
  | .tuple ds => if ds.length = n then gs ds ρ else none
  | .dict [(.bool true, .tuple ds)] => if ds.length = n then gs ds ρ else none
  | _ => none
section
variable {X : Cx} {G : Gm} {B : Wish} {e tg : Expr} {es : List Expr} {pos pos' : Pos}
theorem pg_imp {tg : Expr} {t t' : TG} (h : PG X tg t) (k : ∀ v σ H Q, t' v σ H Q → t v σ H Q) : PG X tg t' := ⟨fun pins s σ H v u Q I r w => h.run pins s σ H v u Q I r (k _ _ _ _ w)⟩
theorem pgs_imp {tg : List Expr} {t t' : TGs} (h : PGs X tg t) (k : ∀ v σ H Q, t' v σ H Q → t v σ H Q) : PGs X tg t' := ⟨fun pins s σ H v u Q I r w => h.run pins s σ H v u Q I r (k _ _ _ _ w)⟩
theorem gd_name (i : Nat) {x : Str} (hN : X.N.Nodup) (hi : X.N[i]? = some x := by rfl) (hx : Loc X.env.scope x := by first | exact Or.inl rfl | exact Or.inr rfl) (hf : X.fn x = true ∨ X.env.scope.names.lookup x = some .local := by first | exact .inl rfl | exact .inr rfl | assumption) :
    GD X G (.Name x pos) [i] (gNm i) := pg_imp (pg_name hN hi hx hf) fun v σ H Q ⟨Z, ρ, d, ρ', S, r, h, k⟩ => k _ Z H List.length_set (fun j hj => by rw [List.getElem?_set_ne]; intro e; exact hj (by simp [e])) (.refl _) (S.put h r)
theorem gds_nil : GDs X G [] [] gNl := pgs_imp pgs_nil fun v σ H Q ⟨Z, ρ, d, ρ', S, r, h, k⟩ => by
  unfold gNl at h
  split at h
  · cases h; cases r; exact ⟨rfl, k σ Z H rfl (fun _ _ => rfl) (.refl _) S⟩
  · cases h
theorem gds_cons {T T' : List Nat} {g : D → Rho → Option Rho} {gs : List D → Rho → Option Rho} (h1 : GD X G e T g) (h2 : GDs X G es T' gs)
    (hs : (assignEach (e :: es) X.env).map (·.2) = assign e X.env :: (assignEach es X.env).map (·.2) := by rfl) : GDs X G (e :: es) (T ++ T') (gCn g gs) :=
  pgs_imp (pgs_cons h1 h2 hs) fun v σ H Q ⟨Z, ρ, d, ρ', S, r, h, k⟩ => by
    unfold gCn at h
    split at h
    · rename_i d ds
      cases r with
      | cons r1 r2 =>
        cases q : g d ρ with
        | none => rw [q] at h; cases h
        | some ρ1 =>
          rw [q] at h
          exact ⟨_, _, rfl, Z, ρ, d, ρ1, S, r1, q, fun σ1 Z1 H1 l1 j1 e1 S1 => ⟨Z1, ρ1, ds, ρ', S1, r2.mono e1, h, fun σ2 Z2 H2 l2 j2 e2 => k σ2 Z2 H2 (l2.trans l1) (fun j hj => (j2 j fun q => hj (List.mem_append_right _ q)).trans (j1 j fun q => hj (List.mem_append_left _ q))) (e1.trans e2)⟩⟩
    · cases h
theorem gd_tup {T : List Nat} {k n : Nat} {gs : List D → Rho → Option Rho} (hc : X.calm = true) (h : GDs X G es T gs)
    (hn : (assignEach es X.env).length = n := by rfl) (hst : (assignEach es X.env).findIdx? (·.1) = none := by rfl) : GD X G (.Tuple es k pos) T (gTp n gs) :=
  pg_imp (pg_tup hc h hn hst) fun v σ H Q ⟨Z, ρ, d, ρ', S, r, h, k⟩ => by
    unfold gTp at h
    split at h
    · split at h
      · rename_i hl
        cases r with
        | tup r1 r2 => exact ⟨_, _, rfl, SqT.of (S.zh _ _ r1), by rw [r2.length]; exact hl, Z, ρ, _, ρ', S, r2, h, k⟩
      · cases h
    · split at h
      · rename_i hl
        cases r with
        | kon r1 r2 => exact ⟨_, _, rfl, sqT_mono S.zh r1, by rw [r2.length]; exact hl, Z, ρ, _, ρ', S, r2, h, k⟩
      · cases h
    · cases h
def oAsg (o : O D) (g : D → Rho → Option Rho) : Os := fun ρ => (o ρ).bindS fun d ρ1 => nx1 (g d ρ1)
theorem sd_asg {T : List Nat} {o : O D} {g : D → Rho → Option Rho} (he : PD X G B e o) (hg : GD X G tg T g) (hs : swapsWithSole [tg] e pos.line X.env = pure false := by rfl) (hw : swappedStores [tg] e X.env = pure none := by rfl)
    (h1 : (assignEach [tg] X.env).map (·.2) = [assign tg X.env] := by rfl) : SD X G B (.Assign [tg] e pos) (oAsg o g) :=
  ps_imp (ps_asg he hg hs hw h1) fun D σ H w => runS_bind (C := fun x H1 => gRun X.K G T g x σ H1 D.nx) w fun x d ρ1 Z1 H1 S1 q p1 => by
    cases h : g d ρ1 with
    | none => rw [h] at p1; exact p1.elim
    | some ρ' => rw [h] at p1; exact ⟨Z1, ρ1, d, ρ', S1, q, h, fun σ' Z' H' _ _ => p1 σ' Z' H'⟩
end
end Ow
namespace Ow
open PySem L2
/-! ### changes to what a slot owns -/
section
variable {K : PySem.W.Frag} {G : Gm} {Z : Hp} {ρ ρ' : Rho} {σ : St} {H : Hp} {i : Nat} {v : V}
theorem Sim.write (S : Sim K G Z ρ σ H) {p : Bool} {c c' : Ct} {a : Addr} {o' : HO} (h : ρ[i]? = some (Sl.ow p c)) (ha : σ[i]? = some (some (V.ref a))) (hc : CtR K Z o' c') : Sim K G Z (ρ.set i (.ow p c')) σ (upd H a o') := by
  obtain ⟨a', o, q, ho, r, z, l, n⟩ := S.ow i p c h
  rw [ha] at q
  cases q
  have hi : i < ρ.length := (List.getElem?_eq_some_iff.mp h).1
  have g : ∀ (j : Nat) t, (ρ.set i (.ow p c'))[j]? = some t → (j = i ∧ t = .ow p c') ∨ (j ≠ i ∧ ρ[j]? = some t) := fun j t e => by
    by_cases hj : j = i
    · subst hj; rw [List.getElem?_set_self hi] at e; cases e; exact .inl ⟨rfl, rfl⟩
    · rw [List.getElem?_set_ne (Ne.symm hj)] at e; exact .inr ⟨hj, e⟩
  refine ⟨S.zz, fun b u e => ?_, fun b u e nl => ?_, S.nw, fun j d e => ?_, fun j q d e => ?_, fun j k q q' c1 d n1 e1 e2 => ?_, fun j x hj => ?_, by rw [List.length_set]; exact S.len, S.lx.frame (fun j xss e => ?_) (fun j k m e => ?_) (.refl _) fun b u f zb gn w hu => ⟨(by rw [upd_ne]; exact hu; intro e; subst e; exact w i _ _ h ha), zb, gn, fun j q d e => ?_⟩⟩
  · rw [upd_ne (ne_of_none e z)]; exact S.zh _ _ e
  · have hb : b ≠ a := fun e' => by
      subst e'
      cases p with
      | true => exact nl (l rfl)
      | false => rw [n rfl] at e; cases e
    rw [upd_ne hb]; exact S.fr b u e nl
  · rcases g j _ e with ⟨rfl, e'⟩ | ⟨hj, e⟩
    · cases e'
    · exact S.pu j d e
  · rcases g j _ e with ⟨rfl, e'⟩ | ⟨hj, e⟩
    · cases e'; exact ⟨a, o', ha, upd_same, hc, z, l, n⟩
    · obtain ⟨b, u, q1, hu, r1, z1, l1⟩ := S.ow j q d e
      have hb : b ≠ a := fun e' => by subst e'; exact S.ne j i _ _ _ _ hj e h (q1.trans ha.symm)
      exact ⟨b, u, q1, by rw [upd_ne hb]; exact hu, r1, z1, l1⟩
  · rcases g j _ e1 with ⟨rfl, e1'⟩ | ⟨hj, e1'⟩
    · rcases g k _ e2 with ⟨rfl, e2'⟩ | ⟨hk, e2'⟩
      · exact absurd rfl n1
      · exact S.ne j k _ _ _ _ n1 h e2'
    · rcases g k _ e2 with ⟨rfl, e2'⟩ | ⟨hk, e2'⟩
      · exact S.ne j k _ _ _ _ n1 e1' h
      · exact S.ne j k _ _ _ _ n1 e1' e2'
  · obtain ⟨q, c1, hc1⟩ := S.pin j x hj
    refine ⟨q, ?_⟩
    by_cases hj' : j = i
    · subst hj'
      rw [h] at hc1
      cases hc1
      exact ⟨c', List.getElem?_set_self hi⟩
    · exact ⟨c1, by rw [List.getElem?_set_ne (Ne.symm hj')]; exact hc1⟩
  · rcases g j _ e with ⟨_, e'⟩ | ⟨_, e⟩
    · cases e'
    · exact ⟨e, rfl⟩
  · rcases g j _ e with ⟨_, e'⟩ | ⟨_, e⟩
    · cases e'
    · exact ⟨e, rfl⟩
  · rcases g j _ e with ⟨rfl, _⟩ | ⟨_, e⟩
    · exact w j _ _ h
    · exact w j q d e
end
/-- a method that changes its list or dict: new content, answer -/
def MutS (K : PySem.W.Frag) (r : V → List V → Hp → VK → Prop) (f : Ct → List D → Option (Ct × D)) : Prop := ∀ (a : Addr) (o : HO) (c : Ct) (vs : List V) (ds : List D) (c' : Ct) (d : D) (Z H : Hp) (Q : VK), Same Z H → H a = some o → CtR K Z o c →
  Paired (Rdb K Z H) vs ds → f c ds = some (c', d) → (∀ v o', CtR K Z o' c' → Rp K Z v d → Q v (upd H a o')) → r (.ref a) vs H Q
def mut1 (i : Nat) (f : Ct → List D → Option (Ct × D)) (as : List Va) (ρ : Rho) : M D := match ρ[i]?, rdVs ρ as with
  | some (.ow p c), some ds => match f c ds with
    | some (c', d) => .ok d (ρ.set i (.ow p c'))
    | none => .st
  | _, _ => .st
def oMut (i : Nat) (f : Ct → List D → Option (Ct × D)) (oas : O (List Va)) : O D := fun ρ => match ρ[i]? with
  | some (.ow _ (.li _)) => (oas ρ).bind (mut1 i f)
  | _ => .st
section
variable {X : Cx} {G : Gm} {B : Wish} {name x : Str} {apos cpos npos : Pos} {e o : Expr} {es : List Expr} {id : String} {r : V → List V → Hp → VK → Prop} {f : Ct → List D → Option (Ct × D)} {oas : O (List Va)}
theorem mut1_run {K : PySem.W.Frag} (hf : MutS K r f) {i : Nat} {σ : St} {Z H : Hp} {ρ : Rho} {v : V} {vs : List V} {as : List Va} {Q : VK} (S : Sim K G Z ρ σ H) (q : σ[i]? = some (some v)) (rv : VasR K Z ρ σ H vs as)
    (p : Post K G B (PuR K) σ Z (mut1 i f as ρ) Q) : r v vs H Q := by
  unfold mut1 at p
  split at p
  · rename_i pn c ds h hd
    split at p
    · rename_i c' d hc
      obtain ⟨a, o, q', ho, r1, z, _⟩ := S.ow i _ _ h
      rw [q] at q'
      cases q'
      exact hf a o c vs ds c' d Z H Q S.zh ho r1 (S.rdbs rv hd) hc fun w o' hc' rw => p w Z _ (.refl _) (S.write h q hc') rw
    · exact p.elim
  · exact p.elim
theorem pd_mut (i : Nat) (slot : Slot "list" name id) (hty : typeOf (.builtin id) = pure (.type "method_descriptor")) (hm : MtR X id r) (hf : MutS X.K r f) (ha : AD X G B (e :: es) oas)
    (hN : X.N[i]? = some x := by rfl) (hv : Vis X.env.scope x := by first | exact Or.inl rfl | exact Or.inr (Or.inl rfl) | exact Or.inr (Or.inr rfl)) (hd : (x == ("__debug__" : Str)) = false := by decide)
    (hcd : (x == ("__classdict__" : Str)) = false := by decide)
    (hbase : attributeBase (.Name x npos) name X.env (eval (.Name x npos) X.env) = eval (.Name x npos) X.env := by rfl)
    (hfew : ((backTo cpos (starEach (e :: es) X.env)).all (fun x => !x.1) && (backToKw cpos (keywordEach [] X.env)).all (fun x => x.1.isSome)
      && decide ((e :: es).length + ([] : List Keyword).length + (if ([] : List Keyword).isEmpty then 0 else 1) < 30)) = true := by rfl)
    (hline : (apos.endLine == cpos.line) = true := by rfl) (hs : starEach (e :: es) X.env = (false, eval e X.env) :: starEach es X.env := by rfl) (hplain : (backTo cpos (starEach es X.env)).any (·.1) = false := by rfl) :
    PD X G B (.Call (.Attribute (.Name x npos) name apos) (e :: es) [] cpos) (oMut i f oas) := by
  refine pe_imp (pe_bm PySem.F.plainAttrs_list slot hty hm (pe_var (i := i) hN hv hd hcd) ha hbase hfew hline hs hplain) ?_
  rintro σ H Q ⟨Z, ρ, S, p⟩
  unfold oMut at p
  split at p
  · rename_i pn ds h
    obtain ⟨a, o, q, ho, r1, z, _⟩ := S.ow i _ _ h
    cases o with
    | lst vs => exact ⟨_, q, .inl ⟨rfl, vs, SqL.of ho⟩, Z, ρ, S, Post.bind p fun ws as ρ1 Z1 H1 e1 S1 r1 p1 => mut1_run hf S1 q r1 p1⟩
    | _ => exact r1.elim
  · exact p.elim
theorem pd_mut0 (i : Nat) (slot : Slot "list" name id) (hty : typeOf (.builtin id) = pure (.type "method_descriptor")) (hm : MtR X id r) (hf : MutS X.K r f)
    (hN : X.N[i]? = some x := by rfl) (hv : Vis X.env.scope x := by first | exact Or.inl rfl | exact Or.inr (Or.inl rfl) | exact Or.inr (Or.inr rfl)) (hd : (x == ("__debug__" : Str)) = false := by decide)
    (hcd : (x == ("__classdict__" : Str)) = false := by decide)
    (hbase : attributeBase (.Name x npos) name X.env (eval (.Name x npos) X.env) = eval (.Name x npos) X.env := by rfl) (hline : (apos.endLine == cpos.line) = true := by rfl) :
    PD X G B (.Call (.Attribute (.Name x npos) name apos) [] [] cpos) (oMut i f oNil) := by
  refine pe_imp (pe_bm0 PySem.F.plainAttrs_list slot hty hm (pe_var (i := i) hN hv hd hcd) hbase hline) ?_
  rintro σ H Q ⟨Z, ρ, S, p⟩
  unfold oMut at p
  split at p
  · rename_i pn ds h
    obtain ⟨a, o, q, ho, r1, z, _⟩ := S.ow i _ _ h
    cases o with
    | lst vs => exact ⟨_, q, .inl ⟨rfl, vs, SqL.of ho⟩, mut1_run hf S q .nil p⟩
    | _ => exact r1.elim
  · exact p.elim
/-- kept data as arguments -/
def oPus (o : O (List D)) : O (List Va) := fun ρ => (o ρ).bind fun ds ρ1 => .ok (ds.map Va.pu) ρ1
theorem vas_pus {K : PySem.W.Frag} {Z : Hp} {ρ : Rho} {σ : St} {H : Hp} : ∀ {vs : List V} {ds : List D}, RpAll K Z vs ds → VasR K Z ρ σ H vs (ds.map Va.pu)
  | _, [], h => by cases h; exact .nil
  | _, d :: ds, h => by
    cases h with
    | cons h1 h2 => exact .cons h1 (vas_pus h2)
theorem ad_qd {es : List Expr} {o : O (List D)} (h : QD X G B es o) : AD X G B es (oPus o) := pa_imp h fun σ H Q w => run_imp w fun x ds ρ1 Z1 H1 S1 r1 p1 => p1 x Z1 H1 (.refl _) S1 (vas_pus r1)
end
def fAppend : Ct → List D → Option (Ct × D)
  | .li xs, [d] => if xs.length < 16000000 then some (.li (xs ++ [d]), .none) else none
  | _, _ => none
def fExtend : Ct → List D → Option (Ct × D)
  | .li xs, [.list ys] => if xs.length + ys.length ≤ 16000000 then some (.li (xs ++ ys), .none) else none
  | _, _ => none
def fPop : Ct → List D → Option (Ct × D)
  | .li xs, [] => (xs[xs.length - 1]?).map fun d => (.li xs.dropLast, d)
  | _, _ => none
def fPopAt : Ct → List D → Option (Ct × D)
  | .li xs, [.int i] => if 0 ≤ i ∧ i.natAbs < 4611686018427387904 then (xs[i.toNat]?).map fun d => (.li (xs.eraseIdx i.toNat), d) else none
  | _, _ => none
def fInsert : Ct → List D → Option (Ct × D)
  | .li xs, [.int i, d] => if 0 ≤ i ∧ i.natAbs < 4611686018427387904 ∧ xs.length < 16000000 then some (.li (xs.take i.toNat ++ [d] ++ xs.drop i.toNat), .none) else none
  | _, _ => none
section
variable {K : PySem.W.Frag}
theorem Rdb.keptD {Z H : Hp} {v : V} {d : D} (h : Rdb K Z H v d) (n : ∀ ds, d ≠ .list ds) : Rp K Z v d := by
  rcases h with h | ⟨_, _, ds, _, e, _⟩
  · exact h
  · exact absurd e (n ds)
theorem mutS_extend : MutS K rExtend fExtend := by
  intro a o c vs ds c' d Z H Q e ho r rv hf k
  unfold fExtend at hf
  split at hf
  · split at hf
    · cases hf
      rename_i hz
      obtain ⟨v, rfl, r1⟩ := Paired.one rv
      obtain ⟨b, ws, rfl, hb, rb⟩ := r1.list e
      cases o with
      | lst us => exact ⟨a, b, us, ws, rfl, rfl, ho, hb, by rw [RpAll.length r, rb.length]; exact lim_le hz, k _ (.lst _) (RpAll.append r rb) .non⟩
      | _ => exact r.elim
    · cases hf
  · cases hf
theorem mutS_pop : MutS K rPop fPop := by
  intro a o c vs ds c' d Z H Q e ho r rv hf k
  unfold fPop at hf
  split at hf
  · rename_i xs
    cases q : xs[xs.length - 1]? with
    | none => rw [q] at hf; cases hf
    | some y =>
      rw [q] at hf
      cases hf
      cases rv
      cases o with
      | lst us =>
        obtain ⟨w, hw, rw'⟩ := RpAll.get r q
        exact ⟨a, us, w, rfl, rfl, ho, by rw [RpAll.length r]; exact hw, k _ (.lst _) (RpAll.dropLast r) rw'⟩
      | _ => exact r.elim
  · cases hf
theorem seqIndex_nat {i : Int} {n : Nat} (h0 : 0 ≤ i) (h1 : i.toNat < n) : seqIndex? i n = some i.toNat := by
  have q : ixN n i = some i.toNat := by unfold ixN; rw [if_pos h0, if_pos (by omega)]
  exact (ixN_seq q).1
theorem mutS_popAt : MutS K rPopAt fPopAt := by
  intro a o c vs ds c' d Z H Q e ho r rv hf k
  unfold fPopAt at hf
  split at hf
  · rename_i xs i
    split at hf
    · rename_i hi
      cases q : xs[i.toNat]? with
      | none => rw [q] at hf; cases hf
      | some y =>
        rw [q] at hf
        cases hf
        obtain ⟨v, rfl, r1⟩ := Paired.one rv
        rw [r1.int]
        cases o with
        | lst us =>
          obtain ⟨w, hw, rw'⟩ := RpAll.get r q
          have hl : i.toNat < us.length := (List.getElem?_eq_some_iff.mp hw).1
          exact ⟨a, us, i, i.toNat, w, rfl, rfl, ho, by omega, by omega, seqIndex_nat hi.1 hl, hw, k _ (.lst _) (RpAll.eraseIdx _ r) rw'⟩
        | _ => exact r.elim
    · cases hf
  · cases hf
end
/-- .. with kept arguments -/
def MutK (K : PySem.W.Frag) (r : V → List V → Hp → VK → Prop) (f : Ct → List D → Option (Ct × D)) : Prop := ∀ (a : Addr) (o : HO) (c : Ct) (vs : List V) (ds : List D) (c' : Ct) (d : D) (Z H : Hp) (Q : VK), Same Z H → H a = some o → CtR K Z o c →
  RpAll K Z vs ds → f c ds = some (c', d) → (∀ v o', CtR K Z o' c' → Rp K Z v d → Q v (upd H a o')) → r (.ref a) vs H Q
def mutK1 (i : Nat) (f : Ct → List D → Option (Ct × D)) (ds : List D) (ρ : Rho) : M D := match ρ[i]? with
  | some (.ow p c) => match f c ds with
    | some (c', d) => .ok d (ρ.set i (.ow p c'))
    | none => .st
  | _ => .st
def oMutK (i : Nat) (f : Ct → List D → Option (Ct × D)) (oas : O (List D)) : O D := fun ρ => match ρ[i]? with
  | some (.ow _ (.li _)) => (oas ρ).bind (mutK1 i f)
  | _ => .st
section
variable {X : Cx} {G : Gm} {B : Wish} {name x : Str} {apos cpos npos : Pos} {e o : Expr} {es : List Expr} {id : String} {r : V → List V → Hp → VK → Prop} {f : Ct → List D → Option (Ct × D)} {oas : O (List D)}
theorem mutK1_run {K : PySem.W.Frag} (hf : MutK K r f) {i : Nat} {σ : St} {Z H : Hp} {ρ : Rho} {v : V} {vs : List V} {ds : List D} {Q : VK} (S : Sim K G Z ρ σ H) (q : σ[i]? = some (some v)) (rv : RpAll K Z vs ds)
    (p : Post K G B (PuR K) σ Z (mutK1 i f ds ρ) Q) : r v vs H Q := by
  unfold mutK1 at p
  split at p
  · rename_i pn c h
    split at p
    · rename_i c' d hc
      obtain ⟨a, o, q', ho, r1, z, _⟩ := S.ow i _ _ h
      rw [q] at q'
      cases q'
      exact hf a o c vs ds c' d Z H Q S.zh ho r1 rv hc fun w o' hc' rw => p w Z _ (.refl _) (S.write h q hc') rw
    · exact p.elim
  · exact p.elim
theorem pd_mutK (i : Nat) (slot : Slot "list" name id) (hty : typeOf (.builtin id) = pure (.type "method_descriptor")) (hm : MtR X id r) (hf : MutK X.K r f) (ha : QD X G B (e :: es) oas)
    (hN : X.N[i]? = some x := by rfl) (hv : Vis X.env.scope x := by first | exact Or.inl rfl | exact Or.inr (Or.inl rfl) | exact Or.inr (Or.inr rfl)) (hd : (x == ("__debug__" : Str)) = false := by decide)
    (hcd : (x == ("__classdict__" : Str)) = false := by decide)
    (hbase : attributeBase (.Name x npos) name X.env (eval (.Name x npos) X.env) = eval (.Name x npos) X.env := by rfl)
    (hfew : ((backTo cpos (starEach (e :: es) X.env)).all (fun x => !x.1) && (backToKw cpos (keywordEach [] X.env)).all (fun x => x.1.isSome)
      && decide ((e :: es).length + ([] : List Keyword).length + (if ([] : List Keyword).isEmpty then 0 else 1) < 30)) = true := by rfl)
    (hline : (apos.endLine == cpos.line) = true := by rfl) (hs : starEach (e :: es) X.env = (false, eval e X.env) :: starEach es X.env := by rfl) (hplain : (backTo cpos (starEach es X.env)).any (·.1) = false := by rfl) :
    PD X G B (.Call (.Attribute (.Name x npos) name apos) (e :: es) [] cpos) (oMutK i f oas) := by
  refine pe_imp (pe_bm PySem.F.plainAttrs_list slot hty hm (pe_var (i := i) hN hv hd hcd) ha hbase hfew hline hs hplain) ?_
  rintro σ H Q ⟨Z, ρ, S, p⟩
  unfold oMutK at p
  split at p
  · rename_i pn ds h
    obtain ⟨a, o, q, ho, r1, z, _⟩ := S.ow i _ _ h
    cases o with
    | lst vs => exact ⟨_, q, .inl ⟨rfl, vs, SqL.of ho⟩, Z, ρ, S, Post.bind p fun ws as ρ1 Z1 H1 e1 S1 r1 p1 => mutK1_run hf S1 q r1 p1⟩
    | _ => exact r1.elim
  · exact p.elim
end
section
variable {K : PySem.W.Frag}
theorem mutK_append : MutK K rAppend fAppend := by
  intro a o c vs ds c' d Z H Q e ho r rv hf k
  unfold fAppend at hf
  split at hf
  · split at hf
    · cases hf
      rename_i hz
      cases rv with
      | cons r1 r2 =>
        cases r2
        cases o with
        | lst us => exact ⟨a, us, _, rfl, rfl, ho, by rw [RpAll.length r]; exact lim_lt hz, k _ (.lst _) (RpAll.append r (.one r1)) .non⟩
        | _ => exact r.elim
    · cases hf
  · cases hf
theorem mutK_insert : MutK K (fun x vs H Q => ∃ (l : Addr) (xs : List V) (i : Int) (y : V), x = .ref l ∧ vs = [.int i, y] ∧ H l = some (.lst xs) ∧ xs.length < sizeLine ∧ 0 ≤ i ∧ i < 2 ^ 63 ∧
    Q .non (upd H l (.lst (xs.take i.toNat ++ [y] ++ xs.drop i.toNat)))) fInsert := by
  intro a o c vs ds c' d Z H Q e ho r rv hf k
  unfold fInsert at hf
  split at hf
  · split at hf
    · cases hf
      rename_i hz
      cases rv with
      | cons r1 r2 =>
        cases r2 with
        | cons r2 r3 =>
          cases r3
          cases r1
          cases o with
          | lst us => exact ⟨a, us, _, _, rfl, rfl, ho, by rw [RpAll.length r]; exact lim_lt hz.2.2, hz.1, by omega, k _ (.lst _) (((RpAll.take _ r).append (.one r2)).append (RpAll.drop _ r)) .non⟩
          | _ => exact r.elim
    · cases hf
  · cases hf
end
end Ow
namespace Ow
open PySem L2
/-! ### x op= e -/
def fAddS : D → D → Option Rs
  | .str i, .str j => if i.length + j.length ≤ 16000000 then some (.pu (.str (i ++ j))) else none
  | _, _ => none
def fMulI : D → D → Option Rs
  | .int i, .int j => if mulOk i j = true then some (.pu (.int (i * j))) else none
  | _, _ => none
structure AugK (X : Cx) (op : Operator) (r : R2) (f : D → D → Option Rs) : Prop where
  o : PIp X op r
  s : BinS X.K r f
def aug1 (i : Nat) (f : D → D → Option Rs) (x : D) (b : Va) (ρ : Rho) : Mo := match rdV ρ b with
  | some dy => match f x dy with
    | some (.pu d) => nx1 (setSl ρ i (.pu d))
    | _ => .st
  | none => .st
def oAug (i : Nat) (f : D → D → Option Rs) (o : O Va) : Os := fun ρ => match ρ[i]? with
  | some (.pu x) => (o ρ).bindS (aug1 i f x)
  | _ => .st
section
variable {X : Cx} {G : Gm} {B : Wish} {e o ix : Expr} {pos pos' tpos npos : Pos} {op : Operator} {r : R2} {f : D → D → Option Rs} {x : Str}
theorem ak_add : AugK X .Add (rI0 fun i j => .int (i + j)) (fInt2 fun i j => i + j) := ⟨iop_add, binS_int⟩
theorem ak_addS : AugK X .Add (fun x y H Q => ∃ i j, x = .str i ∧ y = .str j ∧ i.length + j.length ≤ sizeLine ∧ Q (.str (i ++ j)) H) fAddS :=
  ⟨iop_add_str, by
    intro x y dx dy R Z H Q e rx ry hf k
    unfold fAddS at hf
    split at hf
    · split at hf
      · cases hf; exact ⟨_, _, rx.str, ry.str, lim_le ‹_›, k _ Z H (.refl e) (.str _)⟩
      · cases hf
    · cases hf⟩
theorem ak_sub : AugK X .Sub (rI0 fun i j => .int (i - j)) fSub := ⟨iop_sub, binS_int⟩
theorem ak_mul : AugK X .Mult (rI CMul fun i j => .int (i * j)) fMulI :=
  ⟨iop_mul, binS_intC fun a b R h => by
    unfold fMulI at h
    split at h
    · split at h
      · cases h; rename_i hd; exact ⟨_, _, rfl, rfl, mulOk_c hd, rfl⟩
      · cases h
    · cases h⟩
theorem ak_and : AugK X .BitAnd (rI0 fun i j => .int (Builtin.bitAnd i j)) fAnd := ⟨iop_and, binS_int⟩
theorem ak_or : AugK X .BitOr (rI0 fun i j => .int (Builtin.bitOr i j)) fOr := ⟨iop_or, binS_int⟩
theorem ak_xor : AugK X .BitXor (rI0 fun i j => .int (Builtin.bitXor i j)) fXor := ⟨iop_xor, binS_int⟩
theorem ak_shr : AugK X .RShift (rI (fun _ j => 0 ≤ j) fun i j => .int (i / 2 ^ j.toNat)) fShr := ⟨iop_shr, binS_shr⟩
theorem ak_shl : AugK X .LShift (rI CPow fun i j => .int (i * 2 ^ j.toNat)) fShl := ⟨iop_shl, binS_shl⟩
theorem sd_aug (i : Nat) {oe : O Va} (a : AugK X op r f) (he : ED X G B e oe) (hN : X.N.Nodup) (hi : X.N[i]? = some x := by rfl) (hx : Loc X.env.scope x := by first | exact Or.inl rfl | exact Or.inr rfl)
    (hf : X.fn x = true ∨ X.env.scope.names.lookup x = some .local := by first | exact .inl rfl | exact .inr rfl | assumption) : SD X G B (.AugAssign (.Name x pos') op e pos) (oAug i f oe) := by
  refine ps_imp (ps_aug hN hi hx he a.o hf) ?_
  rintro D σ H ⟨Z, ρ, S, p⟩
  unfold oAug at p
  split at p
  · rename_i d h
    obtain ⟨v, q, rv⟩ := S.pu i d h
    refine ⟨v, q, Z, ρ, S, PostS.bind p fun y b ρ1 Z1 H1 e1 S1 r1 p1 => ?_⟩
    unfold aug1 at p1
    split at p1
    · rename_i dy hy
      split at p1
      · rename_i dz hz
        refine a.s v y d dy _ Z1 H1 _ S1.zh (.inl (rv.mono e1)) (S1.rdb r1 hy) hz fun w Z' H' g rw => ?_
        cases h : setSl ρ1 i (.pu dz) with
        | none => rw [h] at p1; exact p1.elim
        | some ρ' => rw [h] at p1; exact p1 _ Z' H' g.z ((S1.grow g).put h rw)
      · exact p1.elim
    · exact p1.elim
  · exact p.elim
/-! ### xs[i] op= e, xs[i] = e -/
def rIxN (K : PySem.W.Frag) : R2 := fun x y H Q => ∃ p xs i v, x = .ref p ∧ y = .int i ∧ SqL K H p xs ∧ 0 ≤ i ∧ xs[i.toNat]? = some v ∧ Q v H
theorem get_list : PGet X (rIxN X.K) := by
  intro pins s σ H o i ov iv Q I ro ri h
  obtain ⟨p, xs, k, z, rfl, rfl, hq, h0, he, q⟩ := h
  cases ro
  obtain ⟨t, rfl⟩ := ri
  obtain ⟨its, r, pl, hz⟩ := I.list hq
  obtain ⟨u, hu, ru⟩ := r.get he
  have hl := r.length
  have h63 := line63
  have hk : k.toNat < xs.length := (List.getElem?_eq_some_iff.mp he).1
  exact wpAny_getItem_list pl.isList h0 (by omega) (by simpa using hu) ⟨z, H, I, ru, q⟩
end
/-- the place of a store -/
def stL (ds : List D) (i : D) (d : D) : Option Ct := match i with
  | .int j => (ixN ds.length j).map fun n => .li (ds.set n d)
  | _ => none
def stL1 (k : Nat) (d i : D) (ρ : Rho) : Mo := match ρ[k]? with
  | some (.ow p (.li ds)) => match stL ds i d with
    | some c => .nx (ρ.set k (.ow p c))
    | none => .st
  | _ => .st
def oStL (k : Nat) (ov oi : O D) : Os := fun ρ => (ov ρ).bindS fun d ρ1 => match ρ1[k]? with
  | some (.ow _ (.li _)) => (oi ρ1).bindS fun i ρ2 => stL1 k d i ρ2
  | _ => .st
/-- xs[i] op= e, for ints -/
def auL1 (k : Nat) (f : D → D → Option Rs) (j : Nat) (x : D) (d : D) (ρ : Rho) : Mo := match ρ[k]? with
  | some (.ow p (.li ds)) => match f x d with
    | some (.pu y) => if j < ds.length then .nx (ρ.set k (.ow p (.li (ds.set j y)))) else .st
    | _ => .st
  | _ => .st
def auL2 (k : Nat) (f : D → D → Option Rs) (oe : O D) (i : D) (ρ : Rho) : Mo := match ρ[k]?, i with
  | some (.ow _ (.li ds)), .int j => if 0 ≤ j then match ds[j.toNat]? with
    | some x => (oe ρ).bindS fun d ρ1 => auL1 k f j.toNat x d ρ1
    | none => .st
    else .st
  | _, _ => .st
def oAuL (k : Nat) (f : D → D → Option Rs) (oi oe : O D) : Os := fun ρ => match ρ[k]? with
  | some (.ow _ (.li _)) => (oi ρ).bindS (auL2 k f oe)
  | _ => .st
section
variable {X : Cx} {G : Gm} {B : Wish} {e o ix : Expr} {pos pos' tpos npos : Pos} {op : Operator} {r : R2} {f : D → D → Option Rs} {x : Str}
theorem sd_stL (k : Nat) {ov oi : O D} (hv : PD X G B e ov) (hi : PD X G B ix oi)
    (hN : X.N[k]? = some x := by rfl) (hvis : Vis X.env.scope x := by first | exact Or.inl rfl | exact Or.inr (Or.inl rfl) | exact Or.inr (Or.inr rfl)) (hd : (x == ("__debug__" : Str)) = false := by decide)
    (hcd : (x == ("__classdict__" : Str)) = false := by decide)
    (ha : ∀ v, assign (.Subscript (.Name x npos) ix pos') X.env v = (do
      let ov ← holding [v] (eval (.Name x npos) X.env)
      let iv ← holding [v, ov] (eval ix X.env)
      standAt pos'
      holding [v, ov, iv] (setItem ov iv v)
      release [v, ov, iv] []) := by intro _; rfl)
    (hs : swapsWithSole [.Subscript (.Name x npos) ix pos'] e pos.line X.env = pure false := by rfl) (hw : swappedStores [.Subscript (.Name x npos) ix pos'] e X.env = pure none := by rfl)
    (h1 : (assignEach [.Subscript (.Name x npos) ix pos'] X.env).map (·.2) = [assign (.Subscript (.Name x npos) ix pos') X.env] := by rfl) :
    SD X G B (.Assign [.Subscript (.Name x npos) ix pos'] e pos) (oStL k ov oi) :=
  ps_imp (ps_asg hv (pg_sub (pe_var (i := k) hN hvis hd hcd) hi set_list ha) hs hw h1) fun D σ H w => runS_bind (C := fun v H1 => gSub (tVar k) (Run X.K G B (PuR X.K) oi) rSetL v σ H1 D.nx) w fun v d ρ1 Z1 H1 S1 rv p1 => by
    split at p1
    · rename_i p ds h
      obtain ⟨a, ob, q, ho, r1, z, _⟩ := S1.ow k _ _ h
      refine ⟨_, q, Z1, ρ1, S1, PostS.bind p1 fun iv di ρ2 Z2 H2 e2 S2 r2 p2 => ?_⟩
      unfold stL1 at p2
      split at p2
      · rename_i p' ds' h'
        split at p2
        · rename_i c hc
          unfold stL at hc
          split at hc
          · rename_i j
            cases hj : ixN ds'.length j with
            | none => rw [hj] at hc; cases hc
            | some n =>
              rw [hj] at hc
              cases hc
              have q2 : Rp X.K Z2 iv (.int j) := r2
              cases q2
              obtain ⟨a2, o2, q2, ho2, r2', z2, _⟩ := S2.ow k _ _ h'
              rw [q] at q2
              cases q2
              cases o2 with
              | lst us => exact ⟨a, us, j, n, rfl, rfl, ho2, by rw [RpAll.length r2']; exact hj, p2 σ Z2 _ (.refl _) (S2.write h' q (RpAll.set (Rp.mono rv e2) n r2'))⟩
              | _ => exact r2'.elim
          · cases hc
        · exact p2.elim
      · exact p2.elim
    · exact p1.elim
theorem sd_auL (k : Nat) {oi oe : O D} (a : AugK X op r f) (hi : PD X G B ix oi) (he : PD X G B e oe)
    (hN : X.N[k]? = some x := by rfl) (hvis : Vis X.env.scope x := by first | exact Or.inl rfl | exact Or.inr (Or.inl rfl) | exact Or.inr (Or.inr rfl)) (hd : (x == ("__debug__" : Str)) = false := by decide)
    (hcd : (x == ("__classdict__" : Str)) = false := by decide)
    (ha : ∀ ov iv new, augStore ix ov iv new = (do holding [new, ov, iv] (setItem ov iv new); release [new, ov, iv] []; pure .next) := by intros; rfl) :
    SD X G B (.AugAssign (.Subscript (.Name x npos) ix tpos) op e pos) (oAuL k f oi oe) := by
  refine ps_imp (ps_augS (pe_var (i := k) hN hvis hd hcd) hi get_list he a.o set_list ha) ?_
  rintro D σ H ⟨Z, ρ, S, p⟩
  unfold oAuL at p
  split at p
  · rename_i pn ds h
    obtain ⟨b, ob, q, ho, r1, z, _⟩ := S.ow k _ _ h
    refine ⟨_, q, Z, ρ, S, PostS.bind p fun iv di ρ1 Z1 H1 e1 S1 r1 p1 => ?_⟩
    unfold auL2 at p1
    split at p1
    · rename_i p' ds' j h1
      split at p1
      · rename_i h0
        split at p1
        · rename_i xd hx
          obtain ⟨b1, o1, q1, ho1, r1', z1, _⟩ := S1.ow k _ _ h1
          rw [q] at q1
          cases q1
          have qi : Rp X.K Z1 iv (.int j) := r1
          cases qi
          cases o1 with
          | lst us =>
            obtain ⟨w, hw, rw'⟩ := RpAll.get r1' hx
            refine ⟨b, us, j, w, rfl, rfl, SqL.of ho1, h0, hw, Z1, ρ1, S1, PostS.bind p1 fun y d ρ2 Z2 H2 e2 S2 r2 p2 => ?_⟩
            unfold auL1 at p2
            split at p2
            · rename_i p2' ds2 h2
              split at p2
              · rename_i y' hy'
                split at p2
                · rename_i hj
                  refine a.s w y xd d _ Z2 H2 _ S2.zh (.inl (rw'.mono e2)) (.inl r2) hy' fun v Z' H' g rv => ?_
                  have S3 := S2.grow g
                  obtain ⟨b2, o2, q2, ho2, r2', z2, _⟩ := S3.ow k _ _ h2
                  rw [q] at q2
                  cases q2
                  cases o2 with
                  | lst us2 =>
                    have hl := RpAll.length r2'
                    refine ⟨b, us2, j, j.toNat, rfl, rfl, ho2, ?_, p2 σ Z' _ g.z (S3.write h2 q (RpAll.set rv _ r2'))⟩
                    unfold ixN
                    rw [if_pos h0, if_pos (by omega)]
                  | _ => exact r2'.elim
                · exact p2.elim
              · exact p2.elim
            · exact p2.elim
          | _ => exact r1'.elim
        · exact p1.elim
      · exact p1.elim
    · exact p1.elim
  · exact p.elim
end
/-! ### loops -/
/-- J goes over the data ds, wherever Z stands -/
def WalkD (K : PySem.W.Frag) (Z : Hp) (J : It) (ds : List D) : Prop := ∃ (Gd : Hp → Prop) (Y : Nat → Hp → V → Hp → Prop), Walk J ds.length Gd Y ∧ (∀ H, Same Z H → Gd H) ∧
  ∀ i H x H' Z1, i < ds.length → Same Z Z1 → Same Z1 H → Y i H x H' → ∃ d Z', ds[i]? = some d ∧ Grow Z1 H Z' H' ∧ Rp K Z' x d
def ItR (K : PySem.W.Frag) : Rel (List D) It := fun Z ρ σ H J ds => WalkD K Z J ds
def ID (X : Cx) (G : Gm) (B : Wish) (tg iter : Expr) (o : O (List D)) : Prop := PI X tg iter fun σ H R => Run X.K G B (ItR X.K) o σ H R
theorem WalkD.mono {K : PySem.W.Frag} {Z Z' : Hp} {J : It} {ds : List D} (h : WalkD K Z J ds) (e : Same Z Z') : WalkD K Z' J ds := by
  obtain ⟨Gd, Y, w, h1, h2⟩ := h
  exact ⟨Gd, Y, w, fun H q => h1 H (e.trans q), fun i H x H' Z1 hi q => h2 i H x H' Z1 hi (e.trans q)⟩
def forL (g : D → Rho → Option Rho) (b : Os) : List D → Rho → Mo
  | [], ρ => .nx ρ
  | d :: ds, ρ => match g d ρ with
    | none => .st
    | some ρ1 => match b ρ1 with
      | .nx ρ2 => forL g b ds ρ2
      | .ct ρ2 => forL g b ds ρ2
      | .bk ρ2 => .nx ρ2
      | .rt r ρ2 => .rt r ρ2
      | .ex x ρ2 => .ex x ρ2
      | .st => .st
@[simp] theorem forL_nil (g : D → Rho → Option Rho) (b : Os) (ρ : Rho) : forL g b [] ρ = .nx ρ := rfl
theorem forL_cons (g : D → Rho → Option Rho) (b : Os) (d : D) (ds : List D) (ρ : Rho) : forL g b (d :: ds) ρ = match g d ρ with
    | none => .st
    | some ρ1 => match b ρ1 with
      | .nx ρ2 => forL g b ds ρ2
      | .ct ρ2 => forL g b ds ρ2
      | .bk ρ2 => .nx ρ2
      | .rt r ρ2 => .rt r ρ2
      | .ex x ρ2 => .ex x ρ2
      | .st => .st := rfl
def oFor (oi : O (List D)) (g : D → Rho → Option Rho) (b : Os) : Os := fun ρ => (oi ρ).bindS fun ds ρ1 => forL g b ds ρ1
section
variable {X : Cx} {G : Gm} {B : Wish} {tg iter c : Expr} {body : List Stmt} {pos : Pos}
theorem sd_for {T : List Nat} {oi : O (List D)} {g : D → Rho → Option Rho} {b : Os} (hp : PassesOwn (model X.prog X.w) X.A X.env X.xe) (hc : X.calm = true) (hi : ID X G B tg iter oi) (hg : GD X G tg T g) (hb : BD X G B body b)
    (hs : ∀ x, foldedSetIterable iter X.env x = pure x := by intro _; rfl) : SD X G B (.For tg iter body [] pos) (oFor oi g b) :=
  ps_imp (ps_for hp hc hi hg hb hs) fun D σ H w => runS_bind (C := fun (J : It) H1 => ∃ W : Nat → Nat → St → Hp → Prop, (∃ m, W 0 m σ H1) ∧ ∀ i m σ H, W i m σ H →
      (J.stop i H ∧ D.nx σ H) ∨ (J.go i H ∧ ∃ N : St → Hp → Prop, (∀ σ' H', N σ' H' → ∃ m', m' < m ∧ W (i + 1) m' σ' H') ∧ ∀ x H', J.yld i H x H' → gRun X.K G T g x σ H' fun σ2 H2 => RunS X.K G B b { D with nx := N, ct := N, bk := D.nx } σ2 H2)) w
    fun J ds ρ1 Z1 H1 S1 wd p1 => by
    obtain ⟨Gd, Y, wk, h1, h2⟩ := wd
    refine for_it wk (fun i σ' H' => ∃ Z ρ, Sim X.K G Z ρ σ' H' ∧ Same Z1 Z ∧ PostS X.K G B Z (forL g b (ds.drop i) ρ) D) ⟨Z1, ρ1, S1, .refl _, by rw [List.drop_zero]; exact p1⟩ (fun i σ' H' _ ⟨Z, ρ, S, e, _⟩ => h1 H' (e.trans S.zh)) ?_ ?_
    · rintro i x σ' H' H2 hi ⟨Z, ρ, S, e, p⟩ y
      obtain ⟨d, Z', hd, gr, rx⟩ := h2 i H' x H2 Z hi e S.zh y
      have hdr : ds.drop i = d :: ds.drop (i + 1) := by
        rw [List.drop_eq_getElem_cons hi]
        have q := (List.getElem?_eq_some_iff.mp hd).2
        rw [q]
      rw [hdr, forL_cons] at p
      cases hg1 : g d ρ with
      | none => rw [hg1] at p; exact p.elim
      | some ρ2 =>
        rw [hg1] at p
        dsimp only at p
        refine ⟨Z', ρ, d, ρ2, S.grow gr, rx, hg1, fun σ2 Z2 H3 _ _ e2 S2 => ⟨Z2, ρ2, S2, ?_⟩⟩
        have e3 : Same Z Z2 := gr.z.trans e2
        have e4 : Same Z1 Z2 := e.trans e3
        cases hb1 : b ρ2 with
        | st => rw [hb1] at p; exact p.elim
        | nx ρ3 =>
          rw [hb1] at p
          exact fun σ4 Z4 H4 e5 S4 => ⟨Z4, ρ3, S4, e4.trans e5, PostS.mono (m := forL g b (ds.drop (i + 1)) ρ3) p (e3.trans e5)⟩
        | ct ρ3 =>
          rw [hb1] at p
          exact fun σ4 Z4 H4 e5 S4 => ⟨Z4, ρ3, S4, e4.trans e5, PostS.mono (m := forL g b (ds.drop (i + 1)) ρ3) p (e3.trans e5)⟩
        | bk ρ3 =>
          rw [hb1] at p
          exact fun σ4 Z4 H4 e5 S4 => p σ4 Z4 H4 (e3.trans e5) S4
        | rt r ρ3 =>
          rw [hb1] at p
          exact fun v σ4 Z4 H4 e5 S4 => p v σ4 Z4 H4 (e3.trans e5) S4
        | ex x ρ3 =>
          rw [hb1] at p
          exact fun σ4 Z4 H4 e5 S4 => p σ4 Z4 H4 (e3.trans e5) S4
    · rintro σ' H' ⟨Z, ρ, S, e, p⟩
      rw [List.drop_length] at p
      exact p σ' Z H' (.refl _) S
end
/-! while -/
def whl (c : O Bool) (b : Os) : Nat → Rho → Mo
  | 0, _ => .st
  | n + 1, ρ => (c ρ).bindS fun t ρ1 => if t = true then match b ρ1 with
      | .nx ρ2 => whl c b n ρ2
      | .ct ρ2 => whl c b n ρ2
      | .bk ρ2 => .nx ρ2
      | .rt r ρ2 => .rt r ρ2
      | .ex x ρ2 => .ex x ρ2
      | .st => .st
    else .nx ρ1
theorem whl_succ (c : O Bool) (b : Os) (n : Nat) (ρ : Rho) : whl c b (n + 1) ρ = (c ρ).bindS fun t ρ1 => if t = true then match b ρ1 with
      | .nx ρ2 => whl c b n ρ2
      | .ct ρ2 => whl c b n ρ2
      | .bk ρ2 => .nx ρ2
      | .rt r ρ2 => .rt r ρ2
      | .ex x ρ2 => .ex x ρ2
      | .st => .st
    else .nx ρ1 := rfl
theorem whl_more (c : O Bool) (b : Os) : ∀ (n : Nat) (ρ : Rho), whl c b n ρ ≠ .st → whl c b (n + 1) ρ = whl c b n ρ
  | 0, _, h => absurd rfl h
  | n + 1, ρ, h => by
    rw [whl_succ] at h ⊢
    rw [whl_succ]
    cases hc : c ρ with
    | st => rw [hc] at h; exact absurd rfl h
    | ex x ρ1 => rfl
    | ok t ρ1 =>
      rw [hc] at h
      simp only [M.bindS_ok] at h ⊢
      by_cases ht : t = true
      · rw [if_pos ht] at h ⊢
        rw [if_pos ht]
        cases hb : b ρ1 with
        | nx ρ2 => rw [hb] at h; exact whl_more c b n ρ2 h
        | ct ρ2 => rw [hb] at h; exact whl_more c b n ρ2 h
        | st => rfl
        | bk ρ2 => rfl
        | rt r ρ2 => rfl
        | ex x ρ2 => rfl
      · rw [if_neg ht, if_neg ht]
theorem whl_le (c : O Bool) (b : Os) {n m : Nat} {ρ : Rho} (h : whl c b n ρ ≠ .st) (e : n ≤ m) : whl c b m ρ = whl c b n ρ := by
  induction e with
  | refl => rfl
  | step _ ih => rw [whl_more c b _ ρ (by rw [ih]; exact h)]; exact ih
open Classical in
noncomputable def oWhile (c : O Bool) (b : Os) : Os := fun ρ => if h : ∃ n, whl c b n ρ ≠ .st then whl c b (Classical.choose h) ρ else .st
theorem oWhile_eq {c : O Bool} {b : Os} {n : Nat} {ρ : Rho} (h : whl c b n ρ ≠ .st) : oWhile c b ρ = whl c b n ρ := by
  unfold oWhile
  have hx : ∃ n, whl c b n ρ ≠ .st := ⟨n, h⟩
  rw [dif_pos hx]
  have h1 := Classical.choose_spec hx
  rcases Nat.le_total n (Classical.choose hx) with e | e
  · exact whl_le c b h e
  · exact (whl_le c b h1 e).symm
theorem oWhile_is {c : O Bool} {b : Os} (n : Nat) {ρ : Rho} {m : Mo} (h : whl c b n ρ = m) (hm : m ≠ .st) : oWhile c b ρ = m := by
  rw [oWhile_eq (n := n) (by rw [h]; exact hm), h]
section
variable {X : Cx} {G : Gm} {B : Wish} {c : Expr} {body : List Stmt} {pos : Pos}
theorem sd_while {oc : O Bool} {b : Os} (hp : PassesOwn (model X.prog X.w) X.A X.env X.xe) (hc : TD X G B c oc) (hb : BD X G B body b) : SD X G B (.While c body [] pos) (oWhile oc b) := by
  refine ps_imp (ps_while hp hc hb) ?_
  rintro D σ H ⟨Z, ρ, S, p⟩
  obtain ⟨n, p⟩ : ∃ n, PostS X.K G B Z (whl oc b n ρ) D := by
    unfold oWhile at p
    split at p
    · exact ⟨_, p⟩
    · exact p.elim
  refine ⟨fun m σ H => ∃ Z ρ, Sim X.K G Z ρ σ H ∧ PostS X.K G B Z (whl oc b m ρ) D, ⟨n, Z, ρ, S, p⟩, ?_⟩
  rintro m σ1 H1 ⟨Z1, ρ1, S1, p1⟩
  cases m with
  | zero => exact p1.elim
  | succ m =>
    rw [whl_succ] at p1
    refine ⟨Z1, ρ1, S1, PostS.bind p1 fun t t' ρ2 Z2 H2 e2 S2 r2 p2 => ?_⟩
    have r2 : t = t' := r2
    subst r2
    cases t with
    | false => exact p2 σ1 Z2 H2 (.refl _) S2
    | true =>
      refine ⟨fun σ' H' => ∃ Z ρ, Sim X.K G Z ρ σ' H' ∧ PostS X.K G B Z (whl oc b m ρ) D, fun σ' H' q => ⟨m, Nat.lt_succ_self m, q⟩, Z2, ρ2, S2, ?_⟩
      have p3 : PostS X.K G B Z2 (match b ρ2 with
        | .nx ρ2 => whl oc b m ρ2
        | .ct ρ2 => whl oc b m ρ2
        | .bk ρ2 => .nx ρ2
        | .rt r ρ2 => .rt r ρ2
        | .ex x ρ2 => .ex x ρ2
        | .st => .st) D := p2
      cases hb1 : b ρ2 with
      | st => rw [hb1] at p3; exact p3.elim
      | nx ρ3 => rw [hb1] at p3; exact fun σ4 Z4 H4 e5 S4 => ⟨Z4, ρ3, S4, PostS.mono (m := whl oc b m ρ3) p3 e5⟩
      | ct ρ3 => rw [hb1] at p3; exact fun σ4 Z4 H4 e5 S4 => ⟨Z4, ρ3, S4, PostS.mono (m := whl oc b m ρ3) p3 e5⟩
      | bk ρ3 => rw [hb1] at p3; exact p3
      | rt r ρ3 => rw [hb1] at p3; exact p3
      | ex x ρ3 => rw [hb1] at p3; exact p3
end
end Ow
namespace Ow
open PySem L2 RZ
/-! ### what is gone over -/
theorem pi_imp {X : Cx} {tg e : Expr} {t t' : TI} (h : PI X tg e t) (k : ∀ σ H R, t' σ H R → t σ H R) : PI X tg e t' := ⟨fun pins s σ H R I w => h.run pins s σ H R I (k _ _ _ w)⟩
theorem pi_alt {X : Cx} {tg e : Expr} {t t' : TI} (h : PI X tg e t) (h' : PI X tg e t') : PI X tg e (fun σ H R => t σ H R ∨ t' σ H R) := ⟨fun pins s σ H R I w => w.elim (h.run pins s σ H R I) (h'.run pins s σ H R I)⟩
def signs (x : Str) : List D := x.cps.toList.map fun c => .str ⟨#[c]⟩
def itm1 (a : Va) (ρ : Rho) : M (List D) := match a with
  | .pu (.list ds) => .ok ds ρ
  | .pu (.tuple ds) => .ok ds ρ
  | .pu (.str x) => .ok (signs x) ρ
  | .pu (.dict [(.none, .list ds)]) => .ok ds ρ
  | .pu (.dict [(.bool true, .tuple ds)]) => .ok ds ρ
  | .rf i => match ρ[i]? with
    | some (.ow false (.li ds)) => .ok ds (ρ.set i (.pu (.list ds)))
    | _ => .st
  | _ => .st
@[simp] theorem itm1_list (ds : List D) (ρ : Rho) : itm1 (.pu (.list ds)) ρ = .ok ds ρ := rfl
@[simp] theorem itm1_tuple (ds : List D) (ρ : Rho) : itm1 (.pu (.tuple ds)) ρ = .ok ds ρ := rfl
@[simp] theorem itm1_str (x : Str) (ρ : Rho) : itm1 (.pu (.str x)) ρ = .ok (signs x) ρ := rfl
@[simp] theorem itm1_scr (ds : List D) (ρ : Rho) : itm1 (.pu (.dict [(.none, .list ds)])) ρ = .ok ds ρ := rfl
@[simp] theorem itm1_kon (ds : List D) (ρ : Rho) : itm1 (.pu (.dict [(.bool true, .tuple ds)])) ρ = .ok ds ρ := rfl
def oItm (o : O Va) : O (List D) := fun ρ => (o ρ).bind itm1
section
variable {K : PySem.W.Frag}
theorem walkD_list {Z : Hp} {a : Addr} {vs : List V} {ds : List D} (h : SqL K Z a vs) (r : RpAll K Z vs ds) : WalkD K Z (Itl K a) ds :=
  ⟨_, _, by rw [← r.length]; exact walk_list (K := K) (a := a) (xs := vs), fun H e => sqL_mono e h, fun i H x H' Z1 hi e e' y => by
    obtain ⟨rfl, hx⟩ := y
    obtain ⟨d, hd, rd⟩ := r.get' hx
    exact ⟨d, Z1, hd, .refl e', rd.mono e⟩⟩
theorem walkD_tup {Z : Hp} {a : Addr} {vs : List V} {ds : List D} (h : SqT K Z a vs) (r : RpAll K Z vs ds) : WalkD K Z (Itt K a) ds :=
  ⟨_, _, by rw [← r.length]; exact walk_tup (K := K) (a := a) (xs := vs), fun H e => sqT_mono e h, fun i H x H' Z1 hi e e' y => by
    obtain ⟨rfl, hx⟩ := y
    obtain ⟨d, hd, rd⟩ := r.get' hx
    exact ⟨d, Z1, hd, .refl e', rd.mono e⟩⟩
theorem walkD_str {Z : Hp} {x : Str} : WalkD K Z (Its x) (signs x) := by
  refine ⟨fun _ => True, fun i H v H' => H' = H ∧ ∃ c, x.cps[i]? = some c ∧ v = .str ⟨#[c]⟩, ?_, fun _ _ => trivial, fun i H v H' Z1 hi e e' y => ?_⟩
  · have hl : (signs x).length = x.cps.size := by unfold signs; rw [List.length_map, Array.length_toList]
    rw [hl]
    exact walk_str
  · obtain ⟨rfl, c, hc, rfl⟩ := y
    refine ⟨.str ⟨#[c]⟩, Z1, ?_, .refl e', .str _⟩
    unfold signs
    rw [List.getElem?_map, Array.getElem?_toList, hc]
    rfl
def rangeD (lo : Int) (n : Nat) : List D := (List.range n).map fun i => .int (lo + (i : Nat))
theorem walkD_range {Z : Hp} {lo : Int} {n : Nat} : WalkD K Z (Itr lo n) (rangeD lo n) := by
  refine ⟨fun _ => True, YFn fun i => .int (lo + i), ?_, fun _ _ => trivial, fun i H v H' Z1 hi e e' y => ?_⟩
  · have hl : (rangeD lo n).length = n := by unfold rangeD; rw [List.length_map, List.length_range]
    rw [hl]
    exact walk_range
  · obtain ⟨rfl, rfl⟩ := y
    refine ⟨.int (lo + i), Z1, ?_, .refl e', .int _⟩
    unfold rangeD at hi ⊢
    rw [List.length_map, List.length_range] at hi
    rw [List.getElem?_map, List.getElem?_range hi]
    rfl
def rangeC (lo c : Int) (n : Nat) : List D := (List.range n).map fun i => .int (lo + (i : Nat) * c)
theorem walkD_rangeC {Z : Hp} {lo c : Int} {n : Nat} : WalkD K Z (Itc lo c n) (rangeC lo c n) := by
  refine ⟨fun _ => True, YFn fun i => .int (lo + (i : Nat) * c), ?_, fun _ _ => trivial, fun i H v H' Z1 hi e e' y => ?_⟩
  · have hl : (rangeC lo c n).length = n := by unfold rangeC; rw [List.length_map, List.length_range]
    rw [hl]
    exact walk_rangeC
  · obtain ⟨rfl, rfl⟩ := y
    refine ⟨.int (lo + i * c), Z1, ?_, .refl e', .int _⟩
    unfold rangeC at hi ⊢
    rw [List.length_map, List.length_range] at hi
    rw [List.getElem?_map, List.getElem?_range hi]
    rfl
/-- pairs made on the way -/
def pairsD : List D → List D → List D
  | a :: as, b :: bs => .tuple [a, b] :: pairsD as bs
  | _, _ => []
theorem pairsD_get : ∀ {as bs : List D} {i : Nat} {a b : D}, as[i]? = some a → bs[i]? = some b → (pairsD as bs)[i]? = some (.tuple [a, b])
  | [], _, _, _, _, h, _ => by simp at h
  | _ :: _, [], _, _, _, _, h => by simp at h
  | a :: as, b :: bs, 0, _, _, h, h' => by simp at h h'; subst h; subst h'; rfl
  | _ :: as, _ :: bs, i + 1, _, _, h, h' => by
    show (pairsD as bs)[i]? = _
    exact pairsD_get (by simpa using h) (by simpa using h')
theorem pairsD_length : ∀ (as bs : List D), (pairsD as bs).length = min as.length bs.length
  | [], _ => by simp [pairsD]
  | _ :: _, [] => by simp [pairsD]
  | _ :: as, _ :: bs => by simp [pairsD, pairsD_length as bs]
def enumD (n : Nat) : List D → List D
  | [] => []
  | d :: ds => .tuple [.int (n : Nat), d] :: enumD (n + 1) ds
theorem enumD_get : ∀ {ds : List D} {n i : Nat} {d : D}, ds[i]? = some d → (enumD n ds)[i]? = some (.tuple [.int ((n + i : Nat) : Int), d])
  | [], _, _, _, h => by simp at h
  | d :: ds, n, 0, _, h => by simp at h; subst h; rfl
  | _ :: ds, n, i + 1, _, h => by
    show (enumD (n + 1) ds)[i]? = _
    rw [enumD_get (by simpa using h)]
    have e : n + 1 + i = n + (i + 1) := by omega
    rw [e]
theorem enumD_length : ∀ (n : Nat) (ds : List D), (enumD n ds).length = ds.length
  | _, [] => rfl
  | n, _ :: ds => by simp [enumD, enumD_length (n + 1) ds]
theorem pair_still {Z H : Hp} (e : Same Z H) {T : Addr} {x y : V} {a b : D} (h : H T = none) (rx : Rp K Z x a) (ry : Rp K Z y b) : ∃ Z', Grow Z H Z' (upd H T (.tup [x, y])) ∧ Rp K Z' (.ref T) (.tuple [a, b]) := by
  have g := Grow.still e h (.tup [x, y])
  exact ⟨_, g, .tup upd_same (.cons (rx.mono g.z) (.cons (ry.mono g.z) .nil))⟩
theorem walkD_enum {Z : Hp} {a : Addr} {vs : List V} {ds : List D} (h : SqL K Z a vs) (r : RpAll K Z vs ds) : WalkD K Z (Ite K a) (enumD 0 ds) :=
  ⟨_, _, by rw [enumD_length, ← r.length]; exact walk_enum (K := K) (a := a) (xs := vs), fun H e => sqL_mono e h, fun i H x H' Z1 hi e e' y => by
    obtain ⟨T, u, v, rfl, hT, rfl, h1, h2⟩ := y
    cases h1
    obtain ⟨d, hd, rd⟩ := r.get' h2
    obtain ⟨Z', g, r'⟩ := pair_still e' hT (.int (i : Nat)) (rd.mono e)
    refine ⟨_, Z', enumD_get hd, g, ?_⟩
    rw [Nat.zero_add]
    exact r'⟩
theorem walkD_zip {Z : Hp} {a b : Addr} {vs ws : List V} {ds es : List D} (h : SqL K Z a vs) (r : RpAll K Z vs ds) (h' : SqL K Z b ws) (r' : RpAll K Z ws es) : WalkD K Z (Itz K a b) (pairsD ds es) :=
  ⟨_, _, walk_zip (K := K) (a := a) (b := b) (xs := vs) (ys := ws) (by rw [pairsD_length, r.length, r'.length]), fun H e => ⟨sqL_mono e h, sqL_mono e h'⟩, fun i H x H' Z1 hi e e' y => by
    obtain ⟨T, u, v, rfl, hT, rfl, h1, h2⟩ := y
    obtain ⟨d, hd, rd⟩ := r.get' h1
    obtain ⟨d', hd', rd'⟩ := r'.get' h2
    obtain ⟨Z', g, q⟩ := pair_still e' hT (rd.mono e) (rd'.mono e)
    exact ⟨_, Z', pairsD_get hd hd', g, q⟩⟩
theorem walk_zipT {a b : Addr} {xs ys : List V} {n : Nat} (hn : n = min xs.length ys.length) : Walk (ItzT K a b) n (fun H => SqT K H a xs ∧ SqT K H b ys) (YPair (fun i => xs[i]?) (fun i => ys[i]?)) := by
  subst hn
  refine ⟨fun i H hi ⟨h1, h2⟩ => ⟨xs, ys, xs[i]'(by omega), ys[i]'(by omega), h1, h2, by simp, by simp⟩, fun H ⟨h1, h2⟩ => ⟨xs, ys, h1, h2, by omega⟩, fun i H x H' hi ⟨h1, h2⟩ y => ?_⟩
  obtain ⟨T, u, v, e1, e2, e3, e4, e5⟩ := y
  exact ⟨T, u, v, e1, e2, e3, e4 xs h1, e5 ys h2⟩
theorem walkD_zipT {Z : Hp} {a b : Addr} {vs ws : List V} {ds es : List D} (h : SqT K Z a vs) (r : RpAll K Z vs ds) (h' : SqT K Z b ws) (r' : RpAll K Z ws es) : WalkD K Z (ItzT K a b) (pairsD ds es) :=
  ⟨_, _, walk_zipT (K := K) (a := a) (b := b) (xs := vs) (ys := ws) (by rw [pairsD_length, r.length, r'.length]), fun H e => ⟨sqT_mono e h, sqT_mono e h'⟩, fun i H x H' Z1 hi e e' y => by
    obtain ⟨T, u, v, rfl, hT, rfl, h1, h2⟩ := y
    obtain ⟨d, hd, rd⟩ := r.get' h1
    obtain ⟨d', hd', rd'⟩ := r'.get' h2
    obtain ⟨Z', g, q⟩ := pair_still e' hT (rd.mono e) (rd'.mono e)
    exact ⟨_, Z', pairsD_get hd hd', g, q⟩⟩
end
section
variable {X : Cx} {G : Gm} {B : Wish} {tg e e2 : Expr} {p pos tpos : Pos} {elts : List Expr} {kk : Nat}
/-- a sequence: a list, a tuple, a text -/
theorem id_seq {o : O Va} (h : ED X G B e o) : ID X G B tg e (oItm o) := by
  refine pi_imp (pi_alt (pi_list h) (pi_alt (pi_tup h) (pi_str h))) ?_
  rintro σ H R ⟨Z, ρ, S, p⟩
  unfold oItm at p
  cases ha : o ρ with
  | st => rw [ha] at p; exact p.elim
  | ex x ρ1 =>
    rw [ha] at p
    refine .inl ⟨Z, ρ, S, ?_⟩
    rw [ha]
    exact p
  | ok a ρ1 =>
    rw [ha] at p
    replace p : Post X.K G B (ItR X.K) σ Z (itm1 a ρ1) R := p
    unfold itm1 at p
    split at p
    · rename_i ds
      refine .inl ⟨Z, ρ, S, ?_⟩
      rw [ha]
      intro x Z1 H1 e1 S1 r1
      replace r1 : Rp X.K Z1 x (.list ds) := r1
      cases r1 with
      | lst h1 h2 => exact ⟨_, rfl, ⟨_, SqL.of (S1.zh _ _ h1)⟩, p _ Z1 H1 e1 S1 (walkD_list (SqL.of h1) h2)⟩
    · rename_i ds
      refine .inr (.inl ⟨Z, ρ, S, ?_⟩)
      rw [ha]
      intro x Z1 H1 e1 S1 r1
      replace r1 : Rp X.K Z1 x (.tuple ds) := r1
      cases r1 with
      | tup h1 h2 => exact ⟨_, rfl, ⟨_, SqT.of (S1.zh _ _ h1)⟩, p _ Z1 H1 e1 S1 (walkD_tup (SqT.of h1) h2)⟩
    · rename_i y
      refine .inr (.inr ⟨Z, ρ, S, ?_⟩)
      rw [ha]
      intro x Z1 H1 e1 S1 r1
      replace r1 : Rp X.K Z1 x (.str y) := r1
      cases r1
      exact ⟨y, rfl, p _ Z1 H1 e1 S1 walkD_str⟩
    · rename_i ds
      refine .inl ⟨Z, ρ, S, ?_⟩
      rw [ha]
      intro x Z1 H1 e1 S1 r1
      replace r1 : Rp X.K Z1 x (scr ds) := r1
      cases r1 with
      | frz h1 h2 => exact ⟨_, rfl, ⟨_, sqL_mono S1.zh h1⟩, p _ Z1 H1 e1 S1 (walkD_list h1 h2)⟩
    · rename_i ds
      refine .inr (.inl ⟨Z, ρ, S, ?_⟩)
      rw [ha]
      intro x Z1 H1 e1 S1 r1
      replace r1 : Rp X.K Z1 x (kon ds) := r1
      cases r1 with
      | kon h1 h2 => exact ⟨_, rfl, ⟨_, sqT_mono S1.zh h1⟩, p _ Z1 H1 e1 S1 (walkD_tup h1 h2)⟩
    · rename_i i
      split at p
      · rename_i ds hr
        refine .inl ⟨Z, ρ, S, ?_⟩
        rw [ha]
        intro x Z1 H1 e1 S1 r1
        replace r1 : σ[i]? = some (some x) := r1
        obtain ⟨b, vs, q, hb, rb, z, S2⟩ := S1.freezeSlot hr
        rw [q] at r1
        cases r1
        have e2 := same_upd z (.lst vs)
        exact ⟨b, rfl, ⟨vs, SqL.of hb⟩, p _ _ H1 (e1.trans e2) S2 (walkD_list (SqL.of upd_same) (rb.mono e2))⟩
      · exact p.elim
    · exact p.elim
def rg1 (ds : List D) (ρ : Rho) : M (List D) := match ds with
  | [.int j] => if j.natAbs < 4611686018427387904 then .ok (rangeD 0 j.toNat) ρ else .st
  | _ => .st
def rg2 (ds : List D) (ρ : Rho) : M (List D) := match ds with
  | [.int i, .int j] => if i.natAbs < 4611686018427387904 ∧ j.natAbs < 4611686018427387904 then .ok (rangeD i (j - i).toNat) ρ else .st
  | _ => .st
/-- a range with a step -/
def rgN (i j c : Int) : Nat := (Builtin.Range.rangeSize i j c).toNat
def rg3 (ds : List D) (ρ : Rho) : M (List D) := match ds with
  | [.int i, .int j, .int c] => if c ≠ 0 ∧ c.natAbs < 1073741824 ∧ Builtin.Range.small i j c = true ∧ 0 ≤ Builtin.Range.rangeSize i j c then .ok (rangeC i c (rgN i j c)) ρ else .st
  | _ => .st
def oRange (o : O (List D)) : O (List D) := fun ρ => (o ρ).bind rg1
def oRange2 (o : O (List D)) : O (List D) := fun ρ => (o ρ).bind rg2
def oRange3 (o : O (List D)) : O (List D) := fun ρ => (o ρ).bind rg3
theorem id_range1 {o : O (List D)} (hg : Gl X "range") (hm : X.mg "range" = none) (ha : QD X G B [e] o) (hs : starEach [e] X.env = [(false, eval e X.env)] := by rfl) : ID X G B tg (.Call (.Name "range" p) [e] [] pos) (oRange o) :=
  pi_imp (pi_range1 hg hm ha hs) fun σ H R w => run_imp (C := fun (vs : List V) H1 => ∃ j : Int, vs = [.int j] ∧ -(2 ^ 62) ≤ j ∧ j < 2 ^ 62 ∧ R (Itr 0 j.toNat) H1) w fun vs ds ρ1 Z1 H1 S1 r1 p1 => by
    unfold rg1 at p1
    split at p1
    · split at p1
      · rename_i j hj
        replace r1 : RpAll X.K Z1 vs [.int j] := r1
        cases r1 with
        | cons h1 h2 =>
          cases h1
          cases h2
          exact ⟨j, rfl, by omega, by omega, p1 _ Z1 H1 (.refl _) S1 walkD_range⟩
      · exact p1.elim
    · exact p1.elim
theorem id_range2 {o : O (List D)} (hg : Gl X "range") (hm : X.mg "range" = none) (ha : QD X G B [e, e2] o) (hs : starEach [e, e2] X.env = [(false, eval e X.env), (false, eval e2 X.env)] := by rfl) (hs2 : starEach [e2] X.env = [(false, eval e2 X.env)] := by rfl) :
    ID X G B tg (.Call (.Name "range" p) [e, e2] [] pos) (oRange2 o) :=
  pi_imp (pi_range2 hg hm ha hs hs2) fun σ H R w => run_imp (C := fun (vs : List V) H1 => ∃ i j : Int, vs = [.int i, .int j] ∧ (-(2 ^ 62) ≤ i ∧ i < 2 ^ 62 ∧ -(2 ^ 62) ≤ j ∧ j < 2 ^ 62) ∧ R (Itr i (j - i).toNat) H1) w fun vs ds ρ1 Z1 H1 S1 r1 p1 => by
    unfold rg2 at p1
    split at p1
    · split at p1
      · rename_i i j hj
        replace r1 : RpAll X.K Z1 vs [.int i, .int j] := r1
        cases r1 with
        | cons h1 h2 =>
          cases h1
          cases h2 with
          | cons h2 h3 =>
            cases h2
            cases h3
            exact ⟨i, j, rfl, by omega, p1 _ Z1 H1 (.refl _) S1 walkD_range⟩
      · exact p1.elim
    · exact p1.elim
theorem id_range3 {e3 : Expr} {o : O (List D)} (hg : Gl X "range") (hm : X.mg "range" = none) (ha : QD X G B [e, e2, e3] o) (hs : starEach [e, e2, e3] X.env = (false, eval e X.env) :: starEach [e2, e3] X.env := by rfl) (hpl : (backTo pos (starEach [e2, e3] X.env)).any (·.1) = false := by rfl) :
    ID X G B tg (.Call (.Name "range" p) [e, e2, e3] [] pos) (oRange3 o) :=
  pi_imp (pi_range3 hg hm ha hs hpl) fun σ H R w => run_imp (C := fun (vs : List V) H1 => ∃ (i j c : Int) (n : Nat), vs = [.int i, .int j, .int c] ∧ RgC i j c n ∧ R (Itc i c n) H1) w fun vs ds ρ1 Z1 H1 S1 r1 p1 => by
    unfold rg3 at p1
    split at p1
    · split at p1
      · rename_i i j c hj
        replace r1 : RpAll X.K Z1 vs [.int i, .int j, .int c] := r1
        cases r1 with
        | cons h1 h2 =>
          cases h1
          cases h2 with
          | cons h2 h3 =>
            cases h2
            cases h3 with
            | cons h3 h4 =>
              cases h3
              cases h4
              exact ⟨i, j, c, rgN i j c, rfl, ⟨hj.1, hj.2.1, hj.2.2.1, by unfold rgN; omega⟩, p1 _ Z1 H1 (.refl _) S1 walkD_rangeC⟩
      · exact p1.elim
    · exact p1.elim
def en1 (d : D) (ρ : Rho) : M (List D) := match d with
  | .list ds => .ok (enumD 0 ds) ρ
  | _ => .st
def oEnumL (o : O D) : O (List D) := fun ρ => (o ρ).bind en1
def zp1 (ds : List D) (ρ : Rho) : M (List D) := match ds with
  | [.list xs, .list ys] => .ok (pairsD xs ys) ρ
  | [.tuple xs, .tuple ys] => .ok (pairsD xs ys) ρ
  | [.tuple xs, .dict [(.bool true, .tuple ys)]] => .ok (pairsD xs ys) ρ
  | _ => .st
def oZip (o : O (List D)) : O (List D) := fun ρ => (o ρ).bind zp1
theorem id_zip {o : O (List D)} (hg : Gl X "zip") (hm : X.mg "zip" = none) (ha : QD X G B [e, e2] o)
    (hs : starEach [e, e2] X.env = (false, eval e X.env) :: starEach [e2] X.env := by rfl) (hpl : (backTo pos (starEach [e2] X.env)).any (·.1) = false := by rfl) :
    ID X G B (.Tuple elts kk tpos) (.Call (.Name "zip" p) [e, e2] [] pos) (oZip o) :=
  pi_imp (pi_zipA hg hm ha hs hpl) fun σ H R w => run_imp (C := fun (vs : List V) H1 => ∃ a b xs ys, vs = [.ref a, .ref b] ∧ ((SqL X.K H1 a xs ∧ SqL X.K H1 b ys ∧ R (Itz X.K a b) H1) ∨ (SqT X.K H1 a xs ∧ SqT X.K H1 b ys ∧ R (ItzT X.K a b) H1))) w fun vs ds ρ1 Z1 H1 S1 r1 p1 => by
    unfold zp1 at p1
    split at p1
    · rename_i xs ys
      replace r1 : RpAll X.K Z1 vs [.list xs, .list ys] := r1
      cases r1 with
      | cons h1 h2 =>
        cases h2 with
        | cons h2 h3 =>
          cases h3
          cases h1 with
          | lst a1 a2 =>
            cases h2 with
            | lst b1 b2 => exact ⟨_, _, _, _, rfl, .inl ⟨SqL.of (S1.zh _ _ a1), SqL.of (S1.zh _ _ b1), p1 _ Z1 H1 (.refl _) S1 (walkD_zip (SqL.of a1) a2 (SqL.of b1) b2)⟩⟩
    · rename_i xs ys
      replace r1 : RpAll X.K Z1 vs [.tuple xs, .tuple ys] := r1
      cases r1 with
      | cons h1 h2 =>
        cases h2 with
        | cons h2 h3 =>
          cases h3
          cases h1 with
          | tup a1 a2 =>
            cases h2 with
            | tup b1 b2 => exact ⟨_, _, _, _, rfl, .inr ⟨SqT.of (S1.zh _ _ a1), SqT.of (S1.zh _ _ b1), p1 _ Z1 H1 (.refl _) S1 (walkD_zipT (SqT.of a1) a2 (SqT.of b1) b2)⟩⟩
    · rename_i xs ys
      replace r1 : RpAll X.K Z1 vs [.tuple xs, kon ys] := r1
      cases r1 with
      | cons h1 h2 =>
        cases h2 with
        | cons h2 h3 =>
          cases h3
          cases h1 with
          | tup a1 a2 =>
            cases h2 with
            | kon b1 b2 => exact ⟨_, _, _, _, rfl, .inr ⟨SqT.of (S1.zh _ _ a1), sqT_mono S1.zh b1, p1 _ Z1 H1 (.refl _) S1 (walkD_zipT (SqT.of a1) a2 b1 b2)⟩⟩
    · exact p1.elim
theorem id_enumL {o : O D} (hg : Gl X "enumerate") (hm : X.mg "enumerate" = none) (ha : PD X G B e o) (hs : starEach [e] X.env = [(false, eval e X.env)] := by rfl) (hs' : starEach [e] X.env = (false, eval e X.env) :: starEach [] X.env := by rfl) :
    ID X G B (.Tuple elts kk tpos) (.Call (.Name "enumerate" p) [e] [] pos) (oEnumL o) :=
  pi_imp (pi_enum hg hm (pa_cons ha pa_nil hs') hs) fun σ H R w => run_imp (C := fun (v : V) H1 => ∃ a xs, [v] = [.ref a] ∧ SqL X.K H1 a xs ∧ R (Ite X.K a) H1) w fun v d ρ1 Z1 H1 S1 r1 p1 => by
    unfold en1 at p1
    split at p1
    · rename_i ds
      replace r1 : Rp X.K Z1 v (.list ds) := r1
      cases r1 with
      | lst a1 a2 => exact ⟨_, _, rfl, SqL.of (S1.zh _ _ a1), p1 _ Z1 H1 (.refl _) S1 (walkD_enum (SqL.of a1) a2)⟩
    · exact p1.elim
end
end Ow
namespace Ow
open PySem L2
/-! ### list comprehensions -/
def noB : Wish := fun _ _ _ _ _ => False
def wipeR (ρ : Rho) : List Nat → Rho
  | [] => ρ
  | v :: vs => (wipeR ρ vs).set v .no
def restR (ρ0 ρ : Rho) : List Nat → Rho
  | [] => ρ
  | v :: vs => (restR ρ0 ρ vs).set v (ρ0.getD v .no)
def loose (s : Option Sl) : Bool := match s with
  | some .no => true
  | some (.pu _) => true
  | _ => false
def okW (ρ : Rho) (vs : List Nat) : Bool := vs.all fun v => loose ρ[v]?
def lcL (vs : List Nat) (g : D → Rho → Option Rho) (ot : O Bool) (oe : O D) : List D → Rho → M (List D)
  | [], ρ => .ok [] ρ
  | d :: ds, ρ => match g d ρ with
    | none => .st
    | some ρ1 => match ot ρ1 with
      | .ok true ρ2 => match oe ρ2 with
        | .ok y ρ3 => (lcL vs g ot oe ds (wipeR ρ3 vs)).bind fun ys ρ4 => .ok (y :: ys) ρ4
        | _ => .st
      | .ok false ρ2 => lcL vs g ot oe ds (wipeR ρ2 vs)
      | _ => .st
@[simp] theorem lcL_nil (vs : List Nat) (g : D → Rho → Option Rho) (ot : O Bool) (oe : O D) (ρ : Rho) : lcL vs g ot oe [] ρ = .ok [] ρ := rfl
theorem lcL_cons (vs : List Nat) (g : D → Rho → Option Rho) (ot : O Bool) (oe : O D) (d : D) (ds : List D) (ρ : Rho) : lcL vs g ot oe (d :: ds) ρ = match g d ρ with
    | none => .st
    | some ρ1 => match ot ρ1 with
      | .ok true ρ2 => match oe ρ2 with
        | .ok y ρ3 => (lcL vs g ot oe ds (wipeR ρ3 vs)).bind fun ys ρ4 => .ok (y :: ys) ρ4
        | _ => .st
      | .ok false ρ2 => lcL vs g ot oe ds (wipeR ρ2 vs)
      | _ => .st := rfl
def lcE (vs : List Nat) (ρ1 : Rho) (m : M (List D)) : M Rs := match m with
  | .ok ys ρ2 => .ok (.nw (.li ys)) (restR ρ1 ρ2 vs)
  | _ => .st
def lc1 (vs : List Nat) (g : D → Rho → Option Rho) (ot : O Bool) (oe : O D) (ds : List D) (ρ1 : Rho) : M Rs :=
  if okW ρ1 vs = true ∧ ds.length ≤ 16000000 then lcE vs ρ1 (lcL vs g ot oe ds (wipeR ρ1 vs)) else .st
def oLc (vs : List Nat) (oi : O (List D)) (g : D → Rho → Option Rho) (ot : O Bool) (oe : O D) : O Rs := fun ρ => (oi ρ).bind (lc1 vs g ot oe)
def oYes : O Bool := fun ρ => .ok true ρ
@[simp] theorem oYes_eq (ρ : Rho) : oYes ρ = .ok true ρ := rfl

theorem wipeR_length (ρ : Rho) : ∀ vs : List Nat, (wipeR ρ vs).length = ρ.length
  | [] => rfl
  | v :: vs => by unfold wipeR; rw [List.length_set, wipeR_length ρ vs]
theorem restR_length (ρ0 ρ : Rho) : ∀ vs : List Nat, (restR ρ0 ρ vs).length = ρ.length
  | [] => rfl
  | v :: vs => by unfold restR; rw [List.length_set, restR_length ρ0 ρ vs]
theorem wipeR_get (ρ : Rho) (j : Nat) : ∀ vs : List Nat, (wipeR ρ vs)[j]? = if j ∈ vs then (if j < ρ.length then some .no else none) else ρ[j]?
  | [] => by simp [wipeR]
  | v :: vs => by
    unfold wipeR
    by_cases h : v = j
    · subst h
      rw [List.getElem?_set]
      simp [wipeR_length]
    · rw [List.getElem?_set_ne h, wipeR_get ρ j vs]
      have q : (j ∈ v :: vs) ↔ (j ∈ vs) := by simp [List.mem_cons, Ne.symm h]
      by_cases hm : j ∈ vs
      · rw [if_pos hm, if_pos (q.mpr hm)]
      · rw [if_neg hm, if_neg (fun e => hm (q.mp e))]
theorem wipe_get (σ : St) (j : Nat) : ∀ vs : List Nat, (wipe σ vs)[j]? = if j ∈ vs then (if j < σ.length then some none else none) else σ[j]?
  | [] => by simp [wipe]
  | v :: vs => by
    unfold wipe
    by_cases h : v = j
    · subst h
      rw [List.getElem?_set]
      simp [wipe_length]
    · rw [List.getElem?_set_ne h, wipe_get σ j vs]
      have q : (j ∈ v :: vs) ↔ (j ∈ vs) := by simp [List.mem_cons, Ne.symm h]
      by_cases hm : j ∈ vs
      · rw [if_pos hm, if_pos (q.mpr hm)]
      · rw [if_neg hm, if_neg (fun e => hm (q.mp e))]
theorem restR_get (ρ0 ρ : Rho) (j : Nat) (hl : ρ0.length = ρ.length) : ∀ vs : List Nat, (restR ρ0 ρ vs)[j]? = if j ∈ vs then ρ0[j]? else ρ[j]?
  | [] => by simp [restR]
  | v :: vs => by
    unfold restR
    by_cases h : v = j
    · subst h
      rw [List.getElem?_set]
      simp only [if_true, restR_length, List.mem_cons, true_or]
      by_cases hv : v < ρ.length
      · rw [if_pos hv, List.getD_eq_getElem?_getD, List.getElem?_eq_getElem (by omega)]
        rfl
      · rw [if_neg hv, List.getElem?_eq_none (by omega)]
    · rw [List.getElem?_set_ne h, restR_get ρ0 ρ j hl vs]
      have q : (j ∈ v :: vs) ↔ (j ∈ vs) := by simp [List.mem_cons, Ne.symm h]
      by_cases hm : j ∈ vs
      · rw [if_pos hm, if_pos (q.mpr hm)]
      · rw [if_neg hm, if_neg (fun e => hm (q.mp e))]
theorem wipe_same {σ σ' : St} {vs : List Nat} (hl : σ'.length = σ.length) (h : ∀ j : Nat, j ∉ vs → σ'[j]? = σ[j]?) : wipe σ' vs = wipe σ vs := by
  refine List.ext_getElem? fun j => ?_
  rw [wipe_get, wipe_get, hl]
  by_cases hj : j ∈ vs
  · rw [if_pos hj, if_pos hj]
  · rw [if_neg hj, if_neg hj, h j hj]
theorem wipe_wipe (σ : St) (vs : List Nat) : wipe (wipe σ vs) vs = wipe σ vs := by
  refine List.ext_getElem? fun j => ?_
  rw [wipe_get, wipe_get, wipe_length]
  by_cases hj : j ∈ vs
  · rw [if_pos hj, if_pos hj]
  · rw [if_neg hj, if_neg hj]
/-- a thing of ours that stands beside the slots -/
def Gm.ghost (G : Gm) (a : Addr) (o : HO) : Gm := { G with H0 := upd G.H0 a o }
section
variable {K : PySem.W.Frag} {G : Gm} {Z : Hp} {ρ ρ' : Rho} {σ : St} {H : Hp} {a : Addr} {o : HO} {vs : List Nat}
theorem Sim.toGhost (S : Sim K G Z ρ σ H) (ho : H a = some o) (z : Z a = none) (n : NewA ρ σ H a) : Sim K (G.ghost a o) Z ρ σ H where
  zz := S.zz
  zh := S.zh
  fr := fun b u e l => by
    by_cases hb : b = a
    · subst hb
      have e' : upd G.H0 b o b = some u := e
      rw [upd_same] at e'
      cases e'
      exact ho
    · have e' : upd G.H0 a o b = some u := e
      rw [upd_ne hb] at e'
      exact S.fr b u e' l
  nw := fun b u e => by
    rcases S.nw b u e with q | q
    · exact .inl q
    · refine .inr ?_
      show upd G.H0 a o b = none
      have hb : b ≠ a := fun e' => by subst e'; rw [z] at e; cases e
      rw [upd_ne hb]
      exact q
  pu := S.pu
  ow := fun i p c e => by
    obtain ⟨b, u, q, hu, r, zb, l, nb⟩ := S.ow i p c e
    refine ⟨b, u, q, hu, r, zb, l, fun hp => ?_⟩
    show upd G.H0 a o b = none
    have hb : b ≠ a := fun e' => by subst e'; exact n.1 i p c e q
    rw [upd_ne hb]
    exact nb hp
  ne := S.ne
  pin := S.pin
  len := S.len
  lx := S.lx.frame (fun _ _ e => ⟨e, rfl⟩) (fun _ _ _ e => ⟨e, rfl⟩) (.refl _) fun b u f zb gn w hu => ⟨hu, zb, (by
    show upd G.H0 a o b = none
    rw [upd_ne]
    · exact gn
    · intro e; subst e; exact n.2 f), w⟩
theorem NewA.heap {ρ : Rho} {σ : St} {K : PySem.W.Frag} {G : Gm} {Z H H' : Hp} {a : Addr} (n : NewA ρ σ H a) (L : LX K G Z ρ σ H) (hk : ∀ b o, InF ρ σ H b → H b = some o → H' b = some o) : NewA ρ σ H' a := ⟨n.1, fun q => n.2 (L.back hk q)⟩
theorem NewA.wipe {ρ : Rho} {σ : St} {H : Hp} {a : Addr} {vs : List Nat} (n : NewA ρ σ H a) : NewA (wipeR ρ vs) (wipe σ vs) H a := by
  refine ⟨fun i p c hi q => ?_, fun f => ?_⟩
  · rw [wipeR_get] at hi
    by_cases hj : i ∈ vs
    · rw [if_pos hj] at hi
      split at hi <;> cases hi
    · rw [if_neg hj] at hi
      rw [wipe_get, if_neg hj] at q
      exact n.1 i p c hi q
  · obtain ⟨i, xss, b, bs, hi, q, h3, h4⟩ := f
    rw [wipeR_get] at hi
    by_cases hj : i ∈ vs
    · rw [if_pos hj] at hi
      split at hi <;> cases hi
    · rw [if_neg hj] at hi
      rw [wipe_get, if_neg hj] at q
      exact n.2 ⟨i, xss, b, bs, hi, q, h3, h4⟩
theorem Sim.notLent (S : Sim K G Z ρ σ H) (n : ∀ (i : Nat) p c, ρ[i]? = some (Sl.ow p c) → σ[i]? ≠ some (some (V.ref a))) : ¬ G.lent a := fun l => by
  obtain ⟨i, c, _, q, hc, _⟩ := S.lentIn l
  exact n i _ c hc q
theorem Sim.ofGhost (S : Sim K (G.ghost a o) Z ρ σ H) (h0 : G.H0 a = none) (hz : G.Z0 a = none) (hl : ¬ G.lent a) :
    Sim K G Z ρ σ H ∧ H a = some o ∧ Z a = none ∧ NewA ρ σ H a := by
  have up : ∀ b, (G.ghost a o).H0 b = none → G.H0 b = none := fun b e => by
    by_cases hb : b = a
    · subst hb; exact h0
    · have e' : upd G.H0 a o b = none := e
      rw [upd_ne hb] at e'
      exact e'
  have nself : (G.ghost a o).H0 a ≠ none := fun e => by
    have e' : upd G.H0 a o a = none := e
    rw [upd_same] at e'
    cases e'
  refine ⟨⟨S.zz, S.zh, fun b u e l => S.fr b u ?_ l, fun b u e => (S.nw b u e).imp (fun q => q) (up b), S.pu, fun i p c e => ?_, S.ne, S.pin, S.len, S.lx.frame (fun _ _ e => ⟨e, rfl⟩) (fun _ _ _ e => ⟨e, rfl⟩) (.refl _) fun b u f zb gn w hu => ⟨hu, zb, up b gn, w⟩⟩, S.fr a o ?_ hl, ?_, fun i p c e q => ?_, fun f => nself (S.lx.live f).2.2.1⟩
  · show upd G.H0 a o b = some u
    rw [upd_ne (ne_of_none e h0)]
    exact e
  · obtain ⟨b, u, q, hu, r, zb, l, nb⟩ := S.ow i p c e
    exact ⟨b, u, q, hu, r, zb, l, fun hp => up b (nb hp)⟩
  · show upd G.H0 a o a = some o
    exact upd_same
  · cases e : Z a with
    | none => rfl
    | some u =>
      rcases S.nw a u e with q | q
      · have q' : G.Z0 a = some u := q
        rw [hz] at q'; cases q'
      · exact absurd q nself
  · obtain ⟨b, u, q', hu, r, zb, l, nb⟩ := S.ow i p c e
    rw [q] at q'
    cases q'
    cases p with
    | true => exact hl (l rfl)
    | false => exact nself (nb rfl)
theorem Sim.wipes (S : Sim K G Z ρ σ H) (hv : ∀ v ∈ vs, ∀ x, (v, x) ∉ G.pins) : Sim K G Z (wipeR ρ vs) (wipe σ vs) H := by
  have g : ∀ (j : Nat) s, (wipeR ρ vs)[j]? = some s → s ≠ .no → j ∉ vs ∧ ρ[j]? = some s := fun j s e n => by
    rw [wipeR_get] at e
    by_cases hj : j ∈ vs
    · rw [if_pos hj] at e
      split at e
      · cases e; exact absurd rfl n
      · cases e
    · rw [if_neg hj] at e; exact ⟨hj, e⟩
  have gs : ∀ j : Nat, j ∉ vs → (wipe σ vs)[j]? = σ[j]? := fun j hj => by rw [wipe_get, if_neg hj]
  refine ⟨S.zz, S.zh, S.fr, S.nw, fun j d e => ?_, fun j p c e => ?_, fun j k p q c d n e1 e2 => ?_, fun j x hj => ?_, by rw [wipeR_length, wipe_length]; exact S.len, S.lx.frame (fun j xss e => ⟨(g j _ e (by simp)).2, gs j (g j _ e (by simp)).1⟩) (fun j k m e => ⟨(g j _ e (by simp)).2, gs j (g j _ e (by simp)).1⟩) (.refl _) fun b u f zb gn w hu => ⟨hu, zb, gn, fun j p c e => by rw [gs j (g j _ e (by simp)).1]; exact w j p c (g j _ e (by simp)).2⟩⟩
  · obtain ⟨hj, e⟩ := g j _ e (by simp); rw [gs j hj]; exact S.pu j d e
  · obtain ⟨hj, e⟩ := g j _ e (by simp); rw [gs j hj]; exact S.ow j p c e
  · obtain ⟨hj, e1⟩ := g j _ e1 (by simp)
    obtain ⟨hk, e2⟩ := g k _ e2 (by simp)
    rw [gs j hj, gs k hk]
    exact S.ne j k p q c d n e1 e2
  · have nv : j ∉ vs := fun m => hv j m x hj
    rw [gs j nv, wipeR_get, if_neg nv]
    exact S.pin j x hj
theorem Sim.rests {Z1 H1 : Hp} {ρ1 : Rho} (S1 : Sim K G Z1 ρ1 σ H1) (S : Sim K G Z ρ (wipe σ vs) H) (e : Same Z1 Z) (hw : okW ρ1 vs = true) : Sim K G Z (restR ρ1 ρ vs) σ H := by
  have hl : ρ1.length = ρ.length := by rw [S1.len, S.len, wipe_length]
  have gs : ∀ j : Nat, j ∉ vs → (wipe σ vs)[j]? = σ[j]? := fun j hj => by rw [wipe_get, if_neg hj]
  have ok : ∀ v ∈ vs, loose ρ1[v]? = true := fun v hv => List.all_eq_true.mp hw v hv
  have g : ∀ (j : Nat) p c, (restR ρ1 ρ vs)[j]? = some (Sl.ow p c) → j ∉ vs ∧ ρ[j]? = some (Sl.ow p c) := fun j p c e => by
    rw [restR_get ρ1 ρ j hl] at e
    by_cases hj : j ∈ vs
    · rw [if_pos hj] at e
      have q := ok j hj
      rw [e] at q
      cases q
    · rw [if_neg hj] at e; exact ⟨hj, e⟩
  refine ⟨S.zz, S.zh, S.fr, S.nw, fun j d q => ?_, fun j p c q => ?_, fun j k p q c d n e1 e2 => ?_, fun j x hj => ?_, by rw [restR_length, ← hl]; exact S1.len, S.lx.frame (fun j xss q => ?_) (fun j k m q => ?_) (.refl _) fun b u f zb gn w hu => ⟨hu, zb, gn, fun j p c q => by obtain ⟨hj, q⟩ := g j p c q; rw [← gs j hj]; exact w j p c q⟩⟩
  · rw [restR_get ρ1 ρ j hl] at q
    by_cases hj : j ∈ vs
    · rw [if_pos hj] at q
      obtain ⟨v, h1, h2⟩ := S1.pu j d q
      exact ⟨v, h1, h2.mono e⟩
    · rw [if_neg hj] at q
      rw [← gs j hj]
      exact S.pu j d q
  · obtain ⟨hj, q⟩ := g j p c q; rw [← gs j hj]; exact S.ow j p c q
  · obtain ⟨hj, e1⟩ := g j _ _ e1
    obtain ⟨hk, e2⟩ := g k _ _ e2
    rw [← gs j hj, ← gs k hk]
    exact S.ne j k p q c d n e1 e2
  · obtain ⟨q, c, hc⟩ := S1.pin j x hj
    have nv : j ∉ vs := fun m => by have q := ok j m; rw [hc] at q; cases q
    refine ⟨q, ?_⟩
    obtain ⟨_, c', hc'⟩ := S.pin j x hj
    exact ⟨c', by rw [restR_get ρ1 ρ j hl, if_neg nv]; exact hc'⟩
  · rw [restR_get ρ1 ρ j hl] at q
    by_cases hj : j ∈ vs
    · rw [if_pos hj] at q
      have t := ok j hj
      rw [q] at t
      cases t
    · rw [if_neg hj] at q; exact ⟨q, (gs j hj).symm⟩
  · rw [restR_get ρ1 ρ j hl] at q
    by_cases hj : j ∈ vs
    · rw [if_pos hj] at q
      have t := ok j hj
      rw [q] at t
      cases t
    · rw [if_neg hj] at q; exact ⟨q, (gs j hj).symm⟩
end
def TSD (X : Cx) (G : Gm) (B : Wish) (ifs : List Expr) (o : O Bool) : Prop := PTs X ifs (Run X.K G B BoR o)
theorem pts_imp {X : Cx} {e : List Expr} {t t' : TT} (h : PTs X e t) (k : ∀ σ H Q, t' σ H Q → t σ H Q) : PTs X e t' := ⟨fun pins s σ H Q I w => h.run pins s σ H Q I (k _ _ _ w)⟩
section
variable {X : Cx} {G : Gm} {B : Wish} {elt tg iter c : Expr} {ifs : List Expr} {scope : Scope} {own : List (Str × Nat)} {pos spos py : Pos} {T : List Nat} {oi : O (List D)} {g : D → Rho → Option Rho} {ot : O Bool} {oe : O D}
theorem tsd_nil : TSD X G B [] oYes := pts_imp pts_nil fun σ H Q ⟨Z, ρ, S, p⟩ => p true Z H (.refl _) S rfl
theorem tsd_one {o : O Bool} (h : TD X G B c o) : TSD X G B [c] o := pts_one h
/-- the reading of a comprehension; its parts are read at any ground (the list that grows is a ghost there) -/
theorem run_lc {K : PySem.W.Frag} {gg : TG} {tt : TT} {te : TE} {vs : List Nat} {σ : St} {H : Hp} {Q : VK} (hT : ∀ t ∈ T, t ∈ vs)
    (hg : ∀ G v σ H Q, gRun K G T g v σ H Q → gg v σ H Q) (ht : ∀ G σ H Q, Run K G noB BoR ot σ H Q → tt σ H Q) (he : ∀ G σ H Q, Run K G noB (PuR K) oe σ H Q → te σ H Q)
    (w : Run K G B (RsR K G) (oLc vs oi g ot oe) σ H Q) : tLc (fun σ H R => Run K G B (ItR K) oi σ H R) gg tt te vs σ H Q :=
  run_imp (C := fun (J : It) H1 => ∀ D, H1 D = none → ∃ W : Nat → Nat → Hp → Prop, (∃ m, W 0 m (upd H1 D (.lst []))) ∧ ∀ i m H, W i m H →
      (J.stop i H ∧ Q (.ref D) H) ∨ (J.go i H ∧ ∃ Nx : Hp → Prop, (∀ H', Nx H' → ∃ m', m' < m ∧ W (i + 1) m' H') ∧ ∀ x H', J.yld i H x H' → gg x (wipe σ vs) H' fun σ2 H2 => wipe σ2 vs = wipe σ vs ∧ tt σ2 H2 fun b H3 =>
        if b = true then te σ2 H3 fun y H4 => ∃ acc, H4 D = some (.lst acc) ∧ acc.length < sizeLine ∧ Nx (upd H4 D (.lst (acc ++ [y]))) else Nx H3)) w fun J ds ρ1 Z1 H1 S1 wd p1 => by
    intro L hL
    unfold lc1 at p1
    split at p1
    · rename_i hok
      obtain ⟨hw, hlen⟩ := hok
      cases hm : lcL vs g ot oe ds (wipeR ρ1 vs) with
      | st => rw [hm] at p1; exact p1.elim
      | ex x ρ2 => rw [hm] at p1; exact p1.elim
      | ok ysF ρF =>
        rw [hm] at p1
        have p2 : Post K G B (RsR K G) σ Z1 (.ok (.nw (.li ysF)) (restR ρ1 ρF vs)) Q := p1
        obtain ⟨Gd, Y, wk, h1, h2⟩ := wd
        have zL : Z1 L = none := S1.fresh hL
        have gL : G.H0 L = none := S1.freshIn hL
        have z0L : G.Z0 L = none := none_of_same S1.zz zL
        have nS1 : NewA ρ1 σ H1 L := S1.newA hL
        have nl : ¬ G.lent L := S1.notLent nS1.1
        have hv : ∀ v ∈ vs, ∀ x, (v, x) ∉ G.pins := fun v hv x hx => by
          obtain ⟨_, c, hc⟩ := S1.pin v x hx
          have q := List.all_eq_true.mp hw v hv
          rw [hc] at q
          cases q
        have Sw : Sim K G Z1 (wipeR ρ1 vs) (wipe σ vs) (upd H1 L (.lst [])) := (S1.grow (.loose S1.zh hL (.lst []))).wipes hv
        have nSw : NewA (wipeR ρ1 vs) (wipe σ vs) (upd H1 L (.lst [])) L := (nS1.heap S1.lx (H' := upd H1 L (.lst [])) fun b o f ho => by rw [upd_ne]; exact ho; intro e; subst e; rw [hL] at ho; cases ho).wipe
        refine lc_it wk (fun i H => ∃ Z ρ acc accV ys, Sim K G Z ρ (wipe σ vs) H ∧ Same Z1 Z ∧ H L = some (.lst accV) ∧ RpAll K Z accV acc ∧ Z L = none ∧ NewA ρ (wipe σ vs) H L ∧
          acc.length ≤ i ∧ lcL vs g ot oe (ds.drop i) ρ = .ok ys ρF ∧ ysF = acc ++ ys)
          ⟨Z1, wipeR ρ1 vs, [], [], ysF, Sw, .refl _, upd_same, .nil, zL, nSw, Nat.le_refl _, by rw [List.drop_zero]; exact hm, rfl⟩ (fun i H' _ ⟨Z, ρ, acc, accV, ys, S, e, _⟩ => h1 H' (e.trans S.zh)) ?_ ?_
        · rintro i x H' H2 hi ⟨Z, ρ, acc, accV, ys, S, e, hacc, racc, zz, nn, hal, hlc, hys⟩ y
          obtain ⟨d, Z', hd, gr, rx⟩ := h2 i H' x H2 Z hi e S.zh y
          have hdr : ds.drop i = d :: ds.drop (i + 1) := by
            rw [List.drop_eq_getElem_cons hi]
            have q := (List.getElem?_eq_some_iff.mp hd).2
            rw [q]
          rw [hdr, lcL_cons] at hlc
          have S' := S.grow gr
          have hacc' : H2 L = some (.lst accV) := gr.h _ _ hacc
          have zz' : Z' L = none := by
            cases q : Z' L with
            | none => rfl
            | some u =>
              rcases gr.n L u q with q' | q'
              · rw [zz] at q'; cases q'
              · rw [hacc] at q'; cases q'
          have nn' : NewA ρ (wipe σ vs) H2 L := nn.heap S.lx fun b o _ ho => gr.h _ _ ho
          have SG := S'.toGhost hacc' zz' nn'
          cases hg1 : g d ρ with
          | none => rw [hg1] at hlc; cases hlc
          | some ρ2 =>
            rw [hg1] at hlc
            dsimp only at hlc
            refine hg (G.ghost L (.lst accV)) _ _ _ _ ⟨Z', ρ, d, ρ2, SG, rx, hg1, fun σ2 Z2 H3 hl2 hj2 e2 S2 => ?_⟩
            have hw2 : wipe σ2 vs = wipe σ vs := by
              rw [wipe_same hl2 fun j hj => hj2 j fun m => hj (hT j m), wipe_wipe]
            refine ⟨hw2, ht (G.ghost L (.lst accV)) _ _ _ ⟨Z2, ρ2, S2, ?_⟩⟩
            cases ht1 : ot ρ2 with
            | st => rw [ht1] at hlc; cases hlc
            | ex x ρ3 => rw [ht1] at hlc; cases hlc
            | ok b ρ3 =>
              rw [ht1] at hlc
              intro b' Z3 H4 e3 S3 rb
              have rb : b' = b := rb
              subst rb
              cases b' with
              | false =>
                dsimp only at hlc
                rw [if_neg Bool.false_ne_true]
                obtain ⟨S4, h4, z4, n4⟩ := S3.ofGhost gL z0L nl
                have S5 := S4.wipes hv
                rw [hw2] at S5
                refine ⟨Z3, wipeR ρ3 vs, acc, accV, ys, S5, e.trans (gr.z.trans (e2.trans e3)), h4, racc.mono (gr.z.trans (e2.trans e3)), z4, (by have q := n4.wipe (vs := vs); rw [hw2] at q; exact q), Nat.le_succ_of_le hal, hlc, hys⟩
              | true =>
                dsimp only at hlc
                rw [if_pos rfl]
                refine he (G.ghost L (.lst accV)) _ _ _ ⟨Z3, ρ3, S3, ?_⟩
                cases he1 : oe ρ3 with
                | st => rw [he1] at hlc; cases hlc
                | ex x ρ4 => rw [he1] at hlc; cases hlc
                | ok y ρ4 =>
                  rw [he1] at hlc
                  dsimp only at hlc
                  intro yv Z4 H5 e4 S4 ry
                  have ry : Rp K Z4 yv y := ry
                  obtain ⟨S5, h5, z5, n5⟩ := S4.ofGhost gL z0L nl
                  cases hr : lcL vs g ot oe (ds.drop (i + 1)) (wipeR ρ4 vs) with
                  | st => rw [hr] at hlc; cases hlc
                  | ex x ρ5 => rw [hr] at hlc; cases hlc
                  | ok ys' ρ5 =>
                    rw [hr] at hlc
                    cases hlc
                    have ea := gr.z.trans (e2.trans (e3.trans e4))
                    have hal' : accV.length = acc.length := racc.length
                    refine ⟨accV, h5, lim_lt (by omega), ?_⟩
                    -- the list has grown
                    have S6 : Sim K G Z4 (wipeR ρ4 vs) (wipe σ vs) (upd H5 L (.lst (accV ++ [yv]))) := by
                      have S7 := S5.wipes hv
                      rw [hw2] at S7
                      have nn7 : NewA (wipeR ρ4 vs) (wipe σ vs) H5 L := (by have q := n5.wipe (vs := vs); rw [hw2] at q; exact q)
                      refine ⟨S7.zz, fun b u q => ?_, fun b u q l => ?_, S7.nw, S7.pu, fun j p c q => ?_, S7.ne, S7.pin, S7.len, S7.lx.frame (fun _ _ e => ⟨e, rfl⟩) (fun _ _ _ e => ⟨e, rfl⟩) (.refl _) fun b u f zb gn w hu => ⟨(by rw [upd_ne]; exact hu; intro e; subst e; exact nn7.2 f), zb, gn, w⟩⟩
                      · rw [upd_ne (ne_of_none q z5)]; exact S7.zh _ _ q
                      · have hb : b ≠ L := fun e' => by subst e'; rw [gL] at q; cases q
                        rw [upd_ne hb]; exact S7.fr b u q l
                      · obtain ⟨a', o', q', ho', r'⟩ := S7.ow j p c q
                        have hb : a' ≠ L := fun e' => by subst e'; exact nn7.1 j p c q q'
                        exact ⟨a', o', q', by rw [upd_ne hb]; exact ho', r'⟩
                    refine ⟨Z4, wipeR ρ4 vs, acc ++ [y], accV ++ [yv], ys', S6, e.trans ea, upd_same, (racc.mono ea).append (.one ry), z5, ?_, by simp; omega, hr, by rw [hys]; simp⟩
                    have S7 := S5.wipes hv
                    have n7 := n5.wipe (vs := vs)
                    rw [hw2] at S7 n7
                    exact n7.heap S7.lx fun b o f ho => by rw [upd_ne]; exact ho; intro e; subst e; exact n7.2 f
        · rintro H' ⟨Z, ρ, acc, accV, ys, S, e, hacc, racc, zz, nn, hal, hlc, hys⟩
          rw [List.drop_length] at hlc
          cases hlc
          rw [List.append_nil] at hys
          subst hys
          have SR := S1.rests S e hw
          refine p2 (.ref L) Z H' e SR ⟨L, .lst accV, rfl, hacc, racc, zz, gL, fun i p c hi q => ?_, fun f => ?_⟩
          · rw [restR_get ρ1 ρF i (by rw [S1.len, S.len, wipe_length])] at hi
            by_cases hj : i ∈ vs
            · rw [if_pos hj] at hi
              exact nS1.1 i p c hi q
            · rw [if_neg hj] at hi
              refine nn.1 i p c hi ?_
              rw [wipe_get, if_neg hj]
              exact q
          · obtain ⟨i, xss, a0, bs, hi, q, h3, h4⟩ := f
            rw [restR_get ρ1 ρF i (by rw [S1.len, S.len, wipe_length])] at hi
            by_cases hj : i ∈ vs
            · rw [if_pos hj] at hi
              have t := List.all_eq_true.mp hw i hj
              rw [hi] at t
              cases t
            · rw [if_neg hj] at hi
              exact nn.2 ⟨i, xss, a0, bs, hi, by rw [wipe_get, if_neg hj]; exact q, h3, h4⟩
    · exact p1.elim
theorem rd_lc (hc : X.calm = true) (hN : X.N.Nodup) (hT : ∀ t ∈ T, t ∈ own.map (·.2)) (hi : ID X G B tg iter oi) (ok : BlkOk X.N X.env.scope scope own)
    (hg : ∀ (s : Shared) (H : Hp) (C : Addr) (cl : List (Str × Addr)) (fp : List Addr) (G : Gm), GD (X.blk s H scope (compEnvC scope cl C X.env) fp) G tg T g)
    (ht : ∀ (s : Shared) (H : Hp) (C : Addr) (cl : List (Str × Addr)) (fp : List Addr) (G : Gm), TSD (X.blk s H scope (compEnvC scope cl C X.env) fp) G noB ifs ot)
    (he : ∀ (s : Shared) (H : Hp) (C : Addr) (cl : List (Str × Addr)) (fp : List Addr) (G : Gm), PD (X.blk s H scope (compEnvC scope cl C X.env) fp) G noB elt oe)
    (hs : ∀ x, foldedSetIterable iter X.env x = pure x := by intro _; rfl) : RD X G B (.ListComp elt [⟨tg, iter, ifs, 0⟩] scope pos) (oLc (own.map (·.2)) oi g ot oe) :=
  pe_imp (pe_lc hc hN hi ok (g := fun v σ H Q => ∃ G, gRun X.K G T g v σ H Q) (tt := fun σ H Q => ∃ G, Run X.K G noB BoR ot σ H Q) (te := fun σ H Q => ∃ G, Run X.K G noB (PuR X.K) oe σ H Q)
    (fun s H C cl fp => ⟨fun pins s' σ H' v u Q I r ⟨G', w⟩ => (hg s H C cl fp G').run pins s' σ H' v u Q I r w⟩) (fun s H C cl fp => ⟨fun pins s' σ H' Q I ⟨G', w⟩ => (ht s H C cl fp G').run pins s' σ H' Q I w⟩)
    (fun s H C cl fp => ⟨fun pins s' σ H' Q I ⟨G', w⟩ => (he s H C cl fp G').run pins s' σ H' Q I w⟩) hs) fun σ H Q w => run_lc hT (fun G _ _ _ _ w => ⟨G, w⟩) (fun G _ _ _ w => ⟨G, w⟩) (fun G _ _ _ w => ⟨G, w⟩) w
theorem sd_setLc (i : Nat) {y : Str} (hc : X.calm = true) (hN : X.N.Nodup) (hT : ∀ t ∈ T, t ∈ own.map (·.2)) (hy : X.N[i]? = some y) (hyl : X.env.scope.names.lookup y = some .local)
    (hsw : swapsWith (.ListComp elt [⟨tg, iter, ifs, 0⟩] scope pos) (some (.Name y py)) spos.line X.env = pure true) (hi : ID X G B tg iter oi) (ok : BlkOk X.N X.env.scope scope own)
    (hg : ∀ (s : Shared) (H : Hp) (C : Addr) (cl : List (Str × Addr)) (fp : List Addr) (G : Gm), GD (X.blk s H scope (compEnvC scope cl C X.env) fp) G tg T g)
    (ht : ∀ (s : Shared) (H : Hp) (C : Addr) (cl : List (Str × Addr)) (fp : List Addr) (G : Gm), TSD (X.blk s H scope (compEnvC scope cl C X.env) fp) G noB ifs ot)
    (he : ∀ (s : Shared) (H : Hp) (C : Addr) (cl : List (Str × Addr)) (fp : List Addr) (G : Gm), PD (X.blk s H scope (compEnvC scope cl C X.env) fp) G noB elt oe)
    (hs : ∀ x, foldedSetIterable iter X.env x = pure x := by intro _; rfl) : SD X G B (.Assign [.Name y py] (.ListComp elt [⟨tg, iter, ifs, 0⟩] scope pos) spos) (oSet i (oLc (own.map (·.2)) oi g ot oe)) :=
  ps_imp (ps_setLc hc hN hy hyl hsw hi ok (g := fun v σ H Q => ∃ G, gRun X.K G T g v σ H Q) (tt := fun σ H Q => ∃ G, Run X.K G noB BoR ot σ H Q) (te := fun σ H Q => ∃ G, Run X.K G noB (PuR X.K) oe σ H Q)
    (fun s H C cl fp => ⟨fun pins s' σ H' v u Q I r ⟨G', w⟩ => (hg s H C cl fp G').run pins s' σ H' v u Q I r w⟩) (fun s H C cl fp => ⟨fun pins s' σ H' Q I ⟨G', w⟩ => (ht s H C cl fp G').run pins s' σ H' Q I w⟩)
    (fun s H C cl fp => ⟨fun pins s' σ H' Q I ⟨G', w⟩ => (he s H C cl fp G').run pins s' σ H' Q I w⟩) hs) fun D σ H w =>
    run_lc (Q := fun x H1 => gName i x σ H1 D.nx) hT (fun G _ _ _ _ w => ⟨G, w⟩) (fun G _ _ _ w => ⟨G, w⟩) (fun G _ _ _ w => ⟨G, w⟩) (asg_name w)
end
end Ow
namespace Ow
open PySem PySem.Spec PyProof.Rows L2
/-! ### defs: data and lent things in, data or a new thing and what was lent out -/
inductive Fr where
  | st
  | ret (r : Rs) (outs : List Sl)
  | exc (x : Xn) (outs : List Sl)
abbrev Fn := List Sl → Fr
structure ArgsR (K : PySem.W.Frag) (Z H : Hp) (vs : List V) (as : List Sl) : Prop where
  len : vs.length = as.length
  no : ∀ i : Nat, as[i]? ≠ some Sl.no
  ll : ∀ (i : Nat) xss, as[i]? ≠ some (Sl.ll xss)
  al : ∀ (i k j : Nat), as[i]? ≠ some (Sl.al k j)
  pu : ∀ (i : Nat) d, as[i]? = some (Sl.pu d) → ∃ v, vs[i]? = some v ∧ Rp K Z v d
  ow : ∀ (i : Nat) p c, as[i]? = some (Sl.ow p c) → p = true ∧ ∃ a o, vs[i]? = some (V.ref a) ∧ H a = some o ∧ CtR K Z o c ∧ Z a = none
  ne : ∀ (i j : Nat) p q c d, i ≠ j → as[i]? = some (Sl.ow p c) → as[j]? = some (Sl.ow q d) → vs[i]? ≠ vs[j]?
def lentBy (vs : List V) (as : List Sl) (a : Addr) : Prop := ∃ (i : Nat) (p : Bool) (c : Ct), as[i]? = some (Sl.ow p c) ∧ vs[i]? = some (V.ref a)
structure After (K : PySem.W.Frag) (Z H : Hp) (vs : List V) (as outs : List Sl) (Z' H' : Hp) : Prop where
  z : Same Z Z'
  zh : Same Z' H'
  fr : ∀ a o, H a = some o → ¬ lentBy vs as a → H' a = some o
  n : ∀ a o, Z' a = some o → Z a = some o ∨ H a = none
  outs : ∀ (i : Nat) p c a, as[i]? = some (Sl.ow p c) → vs[i]? = some (V.ref a) → ∃ o c', outs[i]? = some (Sl.ow true c') ∧ H' a = some o ∧ CtR K Z' o c' ∧ Z' a = none
/-- the exception x: its class stands in the module, its own dict holds what it is told -/
def XnR (K : PySem.W.Frag) (Z : Hp) (x : Xn) (cls : Value) (d : Option Addr) (H : Hp) : Prop :=
  ∃ C, cls = .ref C ∧ PySem.W.nsIn K mainGlobals x.cls = some (some (.ref C)) ∧ (x.told = [] ∨ ∃ dd fs, d = some dd ∧ H dd = some (.xd fs) ∧ fs.map (·.1) = x.told.map (·.1) ∧ RpAll K Z (fs.map (·.2)) (x.told.map (·.2)))
def spD (K : PySem.W.Frag) (n : Nat) (g : Fn) : Sp := fun vs H Q E => vs.length = n ∧ ∃ Z as, Same Z H ∧ ArgsR K Z H vs as ∧ match g as with
  | .st => False
  | .ret r outs => ∀ v Z' H', After K Z H vs as outs Z' H' → ResG K Z' H H' v r → Q v H'
  | .exc x outs => ∀ cls d Z' H', After K Z H vs as outs Z' H' → XnR K Z' x cls d H' → E cls d H'
/-! the body of a def, as such a function -/
def fnOf (n : Nat) (b : Os) : Fn := fun as => match b (as ++ List.replicate (n - as.length) Sl.no) with
  | .nx ρ => .ret (.pu .none) (ρ.take as.length)
  | .rt r ρ => .ret r (ρ.take as.length)
  | _ => .st
def fnOfX (n : Nat) (b : Os) : Fn := fun as => match b (as ++ List.replicate (n - as.length) Sl.no) with
  | .nx ρ => .ret (.pu .none) (ρ.take as.length)
  | .rt r ρ => .ret r (ρ.take as.length)
  | .ex x ρ => .exc x (ρ.take as.length)
  | _ => .st
def pinsOf (vs : List V) (as : List Sl) : List (Nat × Addr) := (List.range as.length).filterMap fun i => match as[i]?, vs[i]? with
  | some (Sl.ow _ _), some (V.ref a) => some (i, a)
  | _, _ => none
theorem mem_pinsOf {vs : List V} {as : List Sl} {i : Nat} {a : Addr} : (i, a) ∈ pinsOf vs as ↔ ∃ p c, as[i]? = some (Sl.ow p c) ∧ vs[i]? = some (V.ref a) := by
  unfold pinsOf
  rw [List.mem_filterMap]
  constructor
  · rintro ⟨j, hj, e⟩
    split at e
    · rename_i p c b h1 h2
      cases e
      exact ⟨p, c, h1, h2⟩
    · cases e
  · rintro ⟨p, c, h1, h2⟩
    refine ⟨i, List.mem_range.mpr (List.getElem?_eq_some_iff.mp h1).1, ?_⟩
    rw [h1, h2]
def gOf (Z H : Hp) (vs : List V) (as : List Sl) : Gm := ⟨H, Z, pinsOf vs as⟩
theorem gOf_lent {Z H : Hp} {vs : List V} {as : List Sl} {a : Addr} : (gOf Z H vs as).lent a ↔ lentBy vs as a := by
  unfold Gm.lent lentBy
  constructor
  · rintro ⟨i, h⟩
    obtain ⟨p, c, h1, h2⟩ := mem_pinsOf.mp h
    exact ⟨i, p, c, h1, h2⟩
  · rintro ⟨i, p, c, h1, h2⟩
    exact ⟨i, mem_pinsOf.mpr ⟨p, c, h1, h2⟩⟩
theorem start_get {N : List Str} {vs : List V} {i : Nat} {v : V} (h : vs[i]? = some v) : (L2.start N vs)[i]? = some (some v) := by
  unfold L2.start
  have hi : i < vs.length := (List.getElem?_eq_some_iff.mp h).1
  rw [List.getElem?_append_left (by simpa using hi), List.getElem?_map, h]
  rfl
theorem sim_start {K : PySem.W.Frag} {Z H : Hp} {vs : List V} {as : List Sl} {N : List Str} (e : Same Z H) (R : ArgsR K Z H vs as) (hl : as.length ≤ N.length) :
    Sim K (gOf Z H vs as) Z (as ++ List.replicate (N.length - as.length) Sl.no) (L2.start N vs) H := by
  have g : ∀ (j : Nat) s, (as ++ List.replicate (N.length - as.length) Sl.no)[j]? = some s → s ≠ .no → as[j]? = some s := fun j s h n => by
    by_cases hj : j < as.length
    · rw [List.getElem?_append_left hj] at h; exact h
    · rw [List.getElem?_append_right (by omega), List.getElem?_replicate] at h
      split at h
      · cases h; exact absurd rfl n
      · cases h
  refine ⟨.refl _, e, fun a o h _ => h, fun a o h => .inl h, fun i d h => ?_, fun i p c h => ?_, fun i j p q c d n h1 h2 => ?_, fun i a h => ?_, ?_, ⟨fun i xss h => absurd (g i _ h (by simp)) (R.ll i xss), fun i j xss yss h => absurd (g i _ h (by simp)) (R.ll i xss), fun i k j xss h => absurd (g i _ h (by simp)) (R.al i k j)⟩⟩
  · obtain ⟨v, h1, h2⟩ := R.pu i d (g i _ h (by simp)); exact ⟨v, start_get h1, h2⟩
  · have h' := g i _ h (by simp)
    obtain ⟨rfl, a, o, h1, h2, h3, h4⟩ := R.ow i p c h'
    exact ⟨a, o, start_get h1, h2, h3, h4, fun _ => gOf_lent.mpr ⟨i, _, c, h', h1⟩, fun q => by cases q⟩
  · have h1' := g i _ h1 (by simp)
    have h2' := g j _ h2 (by simp)
    obtain ⟨_, a, _, q1, _⟩ := R.ow i p c h1'
    obtain ⟨_, b, _, q2, _⟩ := R.ow j q d h2'
    rw [start_get q1, start_get q2]
    intro e'
    cases e'
    exact R.ne i j p q c d n h1' h2' (q1.trans q2.symm)
  · obtain ⟨p, c, h1, h2⟩ := mem_pinsOf.mp h
    obtain ⟨rfl, _⟩ := R.ow i p c h1
    refine ⟨start_get h2, c, ?_⟩
    rw [List.getElem?_append_left (List.getElem?_eq_some_iff.mp h1).1]
    exact h1
  · unfold L2.start
    rw [List.length_append, List.length_append, List.length_map, List.length_replicate, List.length_replicate, R.len]
theorem after_of {K : PySem.W.Frag} {Z H Z' H' : Hp} {vs : List V} {as : List Sl} {ρ : Rho} {σ : L2.St} (S : Sim K (gOf Z H vs as) Z' ρ σ H') : After K Z H vs as (ρ.take as.length) Z' H' := by
  refine ⟨S.zz, S.zh, fun a o h l => S.fr a o h fun q => l (gOf_lent.mp q), S.nw, fun i p c a h1 h2 => ?_⟩
  obtain ⟨q, c', hc'⟩ := S.pin i a (mem_pinsOf.mpr ⟨p, c, h1, h2⟩)
  obtain ⟨b, o, q', ho, r, z, _⟩ := S.ow i _ _ hc'
  rw [q] at q'
  cases q'
  refine ⟨o, c', ?_, ho, r, z⟩
  rw [List.getElem?_take_of_lt (List.getElem?_eq_some_iff.mp h1).1]
  exact hc'
theorem res_of {K : PySem.W.Frag} {Z H Z' H' : Hp} {vs : List V} {as : List Sl} {ρ : Rho} {σ : L2.St} {v : V} {r : Rs} (h : RsR K (gOf Z H vs as) Z' ρ σ H' v r) : ResG K Z' H H' v r := by
  cases r with
  | pu d => exact h
  | nw c =>
    obtain ⟨a, o, e, ho, cr, z, n, _⟩ := h
    exact ⟨a, o, e, n, z, ho, cr⟩
section
variable {P : Program} {w : World} {K : PySem.W.Frag} {mg : Str → Option Value} {base : Heap} {x qual : Str} {params : Arguments} {body : List Stmt} {scope : Scope} {dvs : List V} {kws : List (Str × V)} {f : Addr} {fd : FuncData}
/-- THE RULE for a def that lets nothing out -/
theorem fn_ok {N ps : List Str} {k : Nat} {b : Os} (F : FunD K x qual params body scope dvs kws f fd) (S : FnScope N ps scope) (hpl : ps.length ≤ N.length)
    (hb : ∀ (cdv : Value) (A : Around) (outer : List Env) (s : Shared) (H : Hp) (E : XK), Room k (A.deeper (envOfC qual scope s.heap.objs.size f cdv)) → ∀ G, BD (cxOf CX0 P w K mg base N qual scope f cdv A outer s H E).nox G noB body b) :
    FnOk P w K mg base CX0 (k + 1) f fd ps (spD K ps.length (fnOf N.length b)) := by
  refine F.ok S (fun vs H Q E h => h.1) (fun cdv A outer s H vs Q E hr h => ⟨fun D σ H => ∃ G, RunS K G noB b D σ H, PSs.nox ?_, ?_⟩)
  · exact ⟨fun pins s' σ H' D I ⟨G, w⟩ => (hb cdv A outer s H E hr G).run pins s' σ H' D I w⟩
  · obtain ⟨hl, Z, as, e, R, h⟩ := h
    have hla : as.length = ps.length := by rw [← R.len]; exact hl
    refine ⟨gOf Z H vs as, Z, _, sim_start e R (by omega), ?_⟩
    unfold fnOf at h
    cases hm : b (as ++ List.replicate (N.length - as.length) Sl.no) with
    | st => rw [hm] at h; exact h.elim
    | bk ρ => rw [hm] at h; exact h.elim
    | ct ρ => rw [hm] at h; exact h.elim
    | nx ρ => rw [hm] at h; exact fun σ Z' H' e' S' => h .non Z' H' (after_of S') .non
    | rt r ρ => rw [hm] at h; exact fun v σ Z' H' e' S' hr' => h v Z' H' (after_of S') (res_of hr')
    | ex y ρ => rw [hm] at h; exact h.elim
end
/-! ### a call -/
def argOf (ρ : Rho) : Va → Option Sl
  | .pu d => some (.pu d)
  | .rf i => match ρ[i]? with
    | some (.ow _ c) => some (.ow true c)
    | _ => none
def argsOf (ρ : Rho) : List Va → Option (List Sl)
  | [] => some []
  | a :: as => match argOf ρ a, argsOf ρ as with
    | some s, some r => some (s :: r)
    | _, _ => none
@[simp] theorem argsOf_nil (ρ : Rho) : argsOf ρ [] = some [] := rfl
@[simp] theorem argsOf_cons (ρ : Rho) (a : Va) (as : List Va) : argsOf ρ (a :: as) = match argOf ρ a, argsOf ρ as with | some s, some r => some (s :: r) | _, _ => none := rfl
@[simp] theorem argOf_pu (ρ : Rho) (d : D) : argOf ρ (.pu d) = some (.pu d) := rfl
def rfs : List Va → List Nat
  | [] => []
  | .rf i :: as => i :: rfs as
  | .pu _ :: as => rfs as
@[simp] theorem rfs_nil : rfs [] = [] := rfl
@[simp] theorem rfs_pu (d : D) (as : List Va) : rfs (.pu d :: as) = rfs as := rfl
@[simp] theorem rfs_rf (i : Nat) (as : List Va) : rfs (.rf i :: as) = i :: rfs as := rfl
def setCt (ρ : Rho) (i : Nat) (c : Ct) : Rho := match ρ[i]? with
  | some (.ow p _) => ρ.set i (.ow p c)
  | _ => ρ
def wb : List Va → List Sl → Rho → Rho
  | .rf i :: vs, .ow _ c :: os, ρ => wb vs os (setCt ρ i c)
  | _ :: vs, _ :: os, ρ => wb vs os ρ
  | _, _, ρ => ρ
@[simp] theorem wb_nil (os : List Sl) (ρ : Rho) : wb [] os ρ = ρ := by cases os <;> rfl
@[simp] theorem wb_rf (i : Nat) (vs : List Va) (p : Bool) (c : Ct) (os : List Sl) (ρ : Rho) : wb (.rf i :: vs) (.ow p c :: os) ρ = wb vs os (setCt ρ i c) := rfl
@[simp] theorem wb_pu (d : D) (vs : List Va) (o : Sl) (os : List Sl) (ρ : Rho) : wb (.pu d :: vs) (o :: os) ρ = wb vs os ρ := by cases o <;> rfl
def call1 (g : Fn) (vas : List Va) (ρ : Rho) : M Rs := match argsOf ρ vas with
  | some as => if (rfs vas).Nodup then match g as with
    | .st => .st
    | .ret r outs => .ok r (wb vas outs ρ)
    | .exc x outs => .ex x (wb vas outs ρ)
    else .st
  | none => .st
def oCall (g : Fn) (oas : O (List Va)) : O Rs := fun ρ => (oas ρ).bind (call1 g)
theorem setCt_length (ρ : Rho) (i : Nat) (c : Ct) : (setCt ρ i c).length = ρ.length := by
  unfold setCt
  split
  · rw [List.length_set]
  · rfl
theorem setCt_ne (ρ : Rho) {i j : Nat} (c : Ct) (h : i ≠ j) : (setCt ρ i c)[j]? = ρ[j]? := by
  unfold setCt
  split
  · rw [List.getElem?_set_ne h]
  · rfl
theorem setCt_eq {ρ : Rho} {i : Nat} {p : Bool} {c : Ct} (c' : Ct) (h : ρ[i]? = some (Sl.ow p c)) : (setCt ρ i c')[i]? = some (Sl.ow p c') := by
  unfold setCt
  rw [h]
  exact List.getElem?_set_self (List.getElem?_eq_some_iff.mp h).1
theorem wb_length : ∀ (vs : List Va) (os : List Sl) (ρ : Rho), (wb vs os ρ).length = ρ.length
  | [], os, ρ => by rw [wb_nil]
  | .pu d :: vs, [], ρ => rfl
  | .rf i :: vs, [], ρ => rfl
  | .pu d :: vs, o :: os, ρ => by rw [wb_pu]; exact wb_length vs os ρ
  | .rf i :: vs, .ow p c :: os, ρ => by rw [wb_rf, wb_length vs os, setCt_length]
  | .rf i :: vs, .no :: os, ρ => wb_length vs os ρ
  | .rf i :: vs, .pu _ :: os, ρ => wb_length vs os ρ
  | .rf i :: vs, .ll _ :: os, ρ => wb_length vs os ρ
  | .rf i :: vs, .al _ _ :: os, ρ => wb_length vs os ρ
theorem wb_out {j : Nat} : ∀ (vs : List Va) (os : List Sl) (ρ : Rho), j ∉ rfs vs → (wb vs os ρ)[j]? = ρ[j]?
  | [], os, ρ, _ => by rw [wb_nil]
  | .pu d :: vs, [], ρ, _ => rfl
  | .rf i :: vs, [], ρ, _ => rfl
  | .pu d :: vs, o :: os, ρ, h => by rw [wb_pu]; exact wb_out vs os ρ h
  | .rf i :: vs, .ow p c :: os, ρ, h => by
    rw [rfs_rf, List.mem_cons, not_or] at h
    rw [wb_rf, wb_out vs os _ h.2, setCt_ne ρ c (Ne.symm h.1)]
  | .rf i :: vs, .no :: os, ρ, h => wb_out vs os ρ fun q => h (by rw [rfs_rf]; exact List.mem_cons_of_mem _ q)
  | .rf i :: vs, .pu _ :: os, ρ, h => wb_out vs os ρ fun q => h (by rw [rfs_rf]; exact List.mem_cons_of_mem _ q)
  | .rf i :: vs, .ll _ :: os, ρ, h => wb_out vs os ρ fun q => h (by rw [rfs_rf]; exact List.mem_cons_of_mem _ q)
  | .rf i :: vs, .al _ _ :: os, ρ, h => wb_out vs os ρ fun q => h (by rw [rfs_rf]; exact List.mem_cons_of_mem _ q)
theorem mem_rfs : ∀ {vs : List Va} {j : Nat}, j ∈ rfs vs ↔ ∃ n : Nat, vs[n]? = some (Va.rf j)
  | [], j => by simp
  | .pu d :: vs, j => by
    rw [rfs_pu, mem_rfs]
    constructor
    · rintro ⟨n, h⟩; exact ⟨n + 1, by simpa using h⟩
    · rintro ⟨n, h⟩
      cases n with
      | zero => simp at h
      | succ n => exact ⟨n, by simpa using h⟩
  | .rf i :: vs, j => by
    rw [rfs_rf, List.mem_cons, mem_rfs]
    constructor
    · rintro (rfl | ⟨n, h⟩)
      · exact ⟨0, rfl⟩
      · exact ⟨n + 1, by simpa using h⟩
    · rintro ⟨n, h⟩
      cases n with
      | zero => simp at h; exact .inl h.symm
      | succ n => exact .inr ⟨n, by simpa using h⟩
theorem wb_in {j : Nat} {p q : Bool} {c c' : Ct} : ∀ {vs : List Va} {os : List Sl} {ρ : Rho} {n : Nat}, (rfs vs).Nodup → vs[n]? = some (Va.rf j) → os[n]? = some (Sl.ow q c') → ρ[j]? = some (Sl.ow p c) → (wb vs os ρ)[j]? = some (Sl.ow p c')
  | [], _, _, _, _, h, _, _ => by simp at h
  | _ :: _, [], _, _, _, _, h, _ => by simp at h
  | .pu d :: vs, o :: os, ρ, n, nd, h1, h2, h3 => by
    rw [wb_pu]
    cases n with
    | zero => simp at h1
    | succ n => exact wb_in (n := n) (by simpa using nd) (by simpa using h1) (by simpa using h2) h3
  | .rf i :: vs, o :: os, ρ, n, nd, h1, h2, h3 => by
    rw [rfs_rf, List.nodup_cons] at nd
    cases n with
    | zero =>
      simp at h1 h2
      subst h1 h2
      rw [wb_rf, wb_out vs os _ nd.1]
      exact setCt_eq c' h3
    | succ n =>
      have hj : j ∈ rfs vs := mem_rfs.mpr ⟨n, by simpa using h1⟩
      have hij : i ≠ j := fun e => nd.1 (by rw [e]; exact hj)
      cases o with
      | ow p' c1 =>
        rw [wb_rf]
        exact wb_in (n := n) nd.2 (by simpa using h1) (by simpa using h2) (by rw [setCt_ne ρ c1 hij]; exact h3)
      | no => exact wb_in (vs := vs) (os := os) (ρ := ρ) (n := n) nd.2 (by simpa using h1) (by simpa using h2) h3
      | pu d => exact wb_in (vs := vs) (os := os) (ρ := ρ) (n := n) nd.2 (by simpa using h1) (by simpa using h2) h3
      | ll x => exact wb_in (vs := vs) (os := os) (ρ := ρ) (n := n) nd.2 (by simpa using h1) (by simpa using h2) h3
      | al x y => exact wb_in (vs := vs) (os := os) (ρ := ρ) (n := n) nd.2 (by simpa using h1) (by simpa using h2) h3
section
variable {K : PySem.W.Frag} {G : Gm} {Z : Hp} {ρ : Rho} {σ : L2.St} {H : Hp} {vs : List V} {vas : List Va} {as outs : List Sl}
theorem argsOf_get : ∀ {vas : List Va} {as : List Sl} {i : Nat}, argsOf ρ vas = some as → (∀ va, vas[i]? = some va → ∃ s, argOf ρ va = some s ∧ as[i]? = some s) ∧ (∀ s, as[i]? = some s → ∃ va, vas[i]? = some va ∧ argOf ρ va = some s)
  | [], as, i, h => by cases h; simp
  | a :: vas, as, i, h => by
    unfold argsOf at h
    split at h
    · rename_i s r h1 h2
      cases h
      cases i with
      | zero => exact ⟨fun va q => ⟨s, by simp at q; subst q; exact ⟨h1, rfl⟩⟩, fun s' q => ⟨a, rfl, by simp at q; subst q; exact h1⟩⟩
      | succ i =>
        obtain ⟨q1, q2⟩ := argsOf_get (i := i) h2
        exact ⟨fun va q => by obtain ⟨s', e1, e2⟩ := q1 va (by simpa using q); exact ⟨s', e1, by simpa using e2⟩, fun s' q => by obtain ⟨va, e1, e2⟩ := q2 s' (by simpa using q); exact ⟨va, by simpa using e1, e2⟩⟩
    · cases h
theorem vasR_get (r : VasR K Z ρ σ H vs vas) {i : Nat} {va : Va} (h : vas[i]? = some va) : ∃ v, vs[i]? = some v ∧ VaR K Z ρ σ H v va := by
  have key : ∀ {l₁ : List V} {l₂ : List Va} {i : Nat}, Paired (VaR K Z ρ σ H) l₁ l₂ → l₂[i]? = some va → ∃ v, l₁[i]? = some v ∧ VaR K Z ρ σ H v va := by
    intro l₁ l₂ i r
    induction r generalizing i with
    | nil => intro h; simp at h
    | cons h1 h2 ih =>
      intro h
      cases i with
      | zero => simp at h; subst h; exact ⟨_, rfl, h1⟩
      | succ i => obtain ⟨v, q1, q2⟩ := ih (by simpa using h); exact ⟨v, by simpa using q1, q2⟩
  exact key r h
theorem argsOf_length : ∀ {vas : List Va} {as : List Sl}, argsOf ρ vas = some as → as.length = vas.length
  | [], _, h => by cases h; rfl
  | a :: vas, _, h => by
    unfold argsOf at h
    split at h
    · cases h; simp [argsOf_length ‹_›]
    · cases h
theorem argOf_pu' {va : Va} {d : D} (h : argOf ρ va = some (.pu d)) : va = .pu d := by
  cases va with
  | pu d' => cases h; rfl
  | rf i =>
    unfold argOf at h
    split at h
    · cases ‹Va.rf i = _›
    · split at h
      · cases h
      · cases h
theorem argOf_ow {va : Va} {p : Bool} {c : Ct} (h : argOf ρ va = some (.ow p c)) : p = true ∧ ∃ i q, va = .rf i ∧ ρ[i]? = some (.ow q c) := by
  cases va with
  | pu d' => cases h
  | rf i =>
    unfold argOf at h
    split at h
    · cases h
    · rename_i j e
      cases e
      split at h
      · rename_i q c' hr
        cases h
        exact ⟨rfl, i, q, rfl, hr⟩
      · cases h
theorem argOf_no {va : Va} : argOf ρ va ≠ some .no := by
  intro h
  cases va with
  | pu d' => cases h
  | rf i =>
    unfold argOf at h
    split at h
    · cases h
    · split at h
      · cases h
      · cases h
theorem nodup_rfs : ∀ {vas : List Va} {m n j : Nat}, (rfs vas).Nodup → vas[m]? = some (Va.rf j) → vas[n]? = some (Va.rf j) → m = n
  | [], m, n, j, _, h, _ => by simp at h
  | .pu d :: vas, m, n, j, nd, h1, h2 => by
    cases m with
    | zero => simp at h1
    | succ m =>
      cases n with
      | zero => simp at h2
      | succ n => exact congrArg (· + 1) (nodup_rfs (vas := vas) (j := j) (by simpa using nd) (by simpa using h1) (by simpa using h2))
  | .rf i :: vas, m, n, j, nd, h1, h2 => by
    rw [rfs_rf, List.nodup_cons] at nd
    cases m with
    | zero =>
      cases n with
      | zero => rfl
      | succ n =>
        simp at h1
        subst h1
        exact absurd (mem_rfs.mpr ⟨n, by simpa using h2⟩) nd.1
    | succ m =>
      cases n with
      | zero =>
        simp at h2
        subst h2
        exact absurd (mem_rfs.mpr ⟨m, by simpa using h1⟩) nd.1
      | succ n => exact congrArg (· + 1) (nodup_rfs (vas := vas) (j := j) nd.2 (by simpa using h1) (by simpa using h2))
theorem args_of (S : Sim K G Z ρ σ H) (r : VasR K Z ρ σ H vs vas) (h : argsOf ρ vas = some as) (nd : (rfs vas).Nodup) : ArgsR K Z H vs as := by
  have kind : ∀ {va : Va} {t : Sl}, argOf ρ va = some t → (∃ d, t = .pu d) ∨ ∃ c, t = .ow true c := fun {va t} q => by
    cases va with
    | pu d => cases q; exact .inl ⟨d, rfl⟩
    | rf i =>
      unfold argOf at q
      dsimp only at q
      split at q
      · cases q; exact .inr ⟨_, rfl⟩
      · cases q
  refine ⟨?_, fun i e => ?_, fun i xss e => ?_, fun i k j e => ?_, fun i d e => ?_, fun i p c e => ?_, fun i j p q c d n e1 e2 => ?_⟩
  · rw [Paired.length r, argsOf_length h]
  · obtain ⟨va, _, q⟩ := (argsOf_get (i := i) h).2 _ e
    exact argOf_no q
  · obtain ⟨va, _, q⟩ := (argsOf_get (i := i) h).2 _ e
    rcases kind q with ⟨_, t⟩ | ⟨_, t⟩ <;> cases t
  · obtain ⟨va, _, q⟩ := (argsOf_get (i := i) h).2 _ e
    rcases kind q with ⟨_, t⟩ | ⟨_, t⟩ <;> cases t
  · obtain ⟨va, q1, q2⟩ := (argsOf_get (i := i) h).2 _ e
    have e' := argOf_pu' q2
    subst e'
    exact vasR_get r q1
  · obtain ⟨va, q1, q2⟩ := (argsOf_get (i := i) h).2 _ e
    obtain ⟨rfl, j, q, rfl, hr⟩ := argOf_ow q2
    obtain ⟨v, h1, h2⟩ := vasR_get r q1
    obtain ⟨a, o, h3, h4, h5, h6, _⟩ := S.ow j q c hr
    have h2 : σ[j]? = some (some v) := h2
    rw [h3] at h2
    cases h2
    exact ⟨rfl, a, o, h1, h4, h5, h6⟩
  · obtain ⟨va, q1, q2⟩ := (argsOf_get (i := i) h).2 _ e1
    obtain ⟨_, i', p', rfl, hr⟩ := argOf_ow q2
    obtain ⟨vb, q3, q4⟩ := (argsOf_get (i := j) h).2 _ e2
    obtain ⟨_, j', p'', rfl, hr'⟩ := argOf_ow q4
    obtain ⟨v, h1, h2⟩ := vasR_get r q1
    obtain ⟨v', h3, h4⟩ := vasR_get r q3
    have hij : i' ≠ j' := fun e => by subst e; exact n (nodup_rfs nd q1 q3)
    rw [h1, h3]
    intro e
    cases e
    have h2 : σ[i']? = some (some v) := h2
    have h4 : σ[j']? = some (some v) := h4
    exact S.ne i' j' _ _ _ _ hij hr hr' (h2.trans h4.symm)
theorem Sim.after (S : Sim K G Z ρ σ H) (r : VasR K Z ρ σ H vs vas) (h : argsOf ρ vas = some as) (nd : (rfs vas).Nodup) {Z' H' : Hp} (A : After K Z H vs as outs Z' H') : Sim K G Z' (wb vas outs ρ) σ H' := by
  -- what stands at a lent slot
  have lent : ∀ {n j : Nat} {p : Bool} {c : Ct} {a : Addr}, vas[n]? = some (Va.rf j) → ρ[j]? = some (Sl.ow p c) → σ[j]? = some (some (V.ref a)) → as[n]? = some (Sl.ow true c) ∧ vs[n]? = some (V.ref a) := fun {n j p c a} h1 h2 h3 => by
    obtain ⟨s, q1, q2⟩ := (argsOf_get (i := n) h).1 _ h1
    obtain ⟨v, q3, q4⟩ := vasR_get r h1
    have q4 : σ[j]? = some (some v) := q4
    rw [h3] at q4
    cases q4
    have q5 : argOf ρ (.rf j) = some (.ow true c) := by unfold argOf; dsimp only; rw [h2]
    rw [q5] at q1
    cases q1
    exact ⟨q2, q3⟩
  have lb : ∀ {a : Addr}, lentBy vs as a → ∃ (j : Nat) (p : Bool) (c : Ct), ρ[j]? = some (Sl.ow p c) ∧ σ[j]? = some (some (V.ref a)) ∧ j ∈ rfs vas := fun {a} ⟨n, p, c, h1, h2⟩ => by
    obtain ⟨va, q1, q2⟩ := (argsOf_get (i := n) h).2 _ h1
    obtain ⟨_, j, p', rfl, hr⟩ := argOf_ow q2
    obtain ⟨v, q3, q4⟩ := vasR_get r q1
    rw [h2] at q3
    cases q3
    exact ⟨j, p', c, hr, q4, mem_rfs.mpr ⟨n, q1⟩⟩
  have get : ∀ {j : Nat} {s : Sl}, (wb vas outs ρ)[j]? = some s → (j ∉ rfs vas ∧ ρ[j]? = some s) ∨ (∃ n p c a o c', vas[n]? = some (Va.rf j) ∧ ρ[j]? = some (Sl.ow p c) ∧ σ[j]? = some (some (V.ref a)) ∧ s = .ow p c' ∧ H' a = some o ∧ CtR K Z' o c' ∧ Z' a = none) := fun {j s} e => by
    by_cases hj : j ∈ rfs vas
    · obtain ⟨n, hn⟩ := mem_rfs.mp hj
      obtain ⟨s', q1, q2⟩ := (argsOf_get (i := n) h).1 _ hn
      have hex : ∃ p c, ρ[j]? = some (Sl.ow p c) := by
        unfold argOf at q1
        dsimp only at q1
        split at q1
        · exact ⟨_, _, ‹_›⟩
        · cases q1
      obtain ⟨p, c, hr⟩ := hex
      obtain ⟨a, o0, h3, _⟩ := S.ow j p c hr
      obtain ⟨l1, l2⟩ := lent hn hr h3
      obtain ⟨o, c', h4, h5, h6, h7⟩ := A.outs n true c a l1 l2
      rw [wb_in nd hn h4 hr] at e
      cases e
      exact .inr ⟨n, p, c, a, o, c', hn, hr, h3, rfl, h5, h6, h7⟩
    · rw [wb_out vas outs ρ hj] at e
      exact .inl ⟨hj, e⟩
  refine ⟨S.zz.trans A.z, A.zh, fun a o e l => ?_, fun a o e => ?_, fun i d e => ?_, fun i p c e => ?_, fun i j p q c d n e1 e2 => ?_, fun i a e => ?_, by rw [wb_length]; exact S.len, S.lx.frame (fun j xss e => ?_) (fun j k m e => ?_) A.z fun b o f zb gn w ho => ⟨A.fr b o ho fun q => ?_, ?_, gn, fun j p c e => ?_⟩⟩
  · refine A.fr a o (S.fr a o e l) fun q => ?_
    obtain ⟨j, p, c, h1, h2, _⟩ := lb q
    obtain ⟨b, _, h3, _, _, _, h4, h5⟩ := S.ow j p c h1
    rw [h2] at h3
    cases h3
    cases p with
    | true => exact l (h4 rfl)
    | false => rw [h5 rfl] at e; cases e
  · exact (A.n a o e).elim (fun q => S.nw a o q) fun q => .inr (S.freshIn q)
  · rcases get e with ⟨_, e⟩ | ⟨_, _, _, _, _, _, _, _, _, e', _⟩
    · obtain ⟨v, q, r'⟩ := S.pu i d e
      exact ⟨v, q, r'.mono A.z⟩
    · cases e'
  · rcases get e with ⟨hi, e⟩ | ⟨n, p', c0, a, o, c', hn, hr, h3, e', h4, h5, h6⟩
    · obtain ⟨a, o, h1, h2, h3, h4, h5⟩ := S.ow i p c e
      refine ⟨a, o, h1, A.fr a o h2 fun q => ?_, h3.mono A.z, ?_, h5⟩
      · obtain ⟨j, p', c', q1, q2, q3⟩ := lb q
        have hij : i ≠ j := fun e' => by subst e'; exact hi q3
        exact S.ne i j _ _ _ _ hij e q1 (h1.trans q2.symm)
      · cases q : Z' a with
        | none => rfl
        | some u =>
          rcases A.n a u q with w | w
          · rw [h4] at w; cases w
          · rw [h2] at w; cases w
    · cases e'
      obtain ⟨a', _, h7, _, _, _, h8⟩ := S.ow i _ _ hr
      rw [h3] at h7
      cases h7
      exact ⟨a, o, h3, h4, h5, h6, h8⟩
  · have ex : ∀ {j : Nat} {p : Bool} {c : Ct}, (wb vas outs ρ)[j]? = some (Sl.ow p c) → ∃ p' c', ρ[j]? = some (Sl.ow p' c') := fun {j p c} e => by
      rcases get e with ⟨_, e⟩ | ⟨_, p', c', _, _, _, _, hr, _⟩
      · exact ⟨p, c, e⟩
      · exact ⟨p', c', hr⟩
    obtain ⟨_, _, x1⟩ := ex e1
    obtain ⟨_, _, x2⟩ := ex e2
    exact S.ne i j _ _ _ _ n x1 x2
  · obtain ⟨q, c, hc⟩ := S.pin i a e
    refine ⟨q, ?_⟩
    by_cases hi : i ∈ rfs vas
    · obtain ⟨n, hn⟩ := mem_rfs.mp hi
      obtain ⟨l1, l2⟩ := lent hn hc q
      obtain ⟨o, c', h4, _⟩ := A.outs n true c a l1 l2
      exact ⟨c', wb_in nd hn h4 hc⟩
    · exact ⟨c, by rw [wb_out vas outs ρ hi]; exact hc⟩
  · rcases get e with ⟨_, e⟩ | ⟨_, _, _, _, _, _, _, _, _, e', _⟩
    · exact ⟨e, rfl⟩
    · cases e'
  · rcases get e with ⟨_, e⟩ | ⟨_, _, _, _, _, _, _, _, _, e', _⟩
    · exact ⟨e, rfl⟩
    · cases e'
  · obtain ⟨j, p, c, h1, h2, _⟩ := lb q
    exact w j p c h1 h2
  · cases q : Z' b with
    | none => rfl
    | some u =>
      rcases A.n b u q with e | e
      · rw [zb] at e; cases e
      · rw [ho] at e; cases e
  · rcases get e with ⟨_, e⟩ | ⟨_, p', c', _, _, _, _, hr, _⟩
    · exact w j p c e
    · exact w j p' c' hr
theorem wb_ll : ∀ {vas : List Va} {outs : List Sl} {ρ : Rho} {i : Nat} {xss : Nt}, (wb vas outs ρ)[i]? = some (Sl.ll xss) → ρ[i]? = some (Sl.ll xss)
  | [], os, ρ, i, _, h => by rw [wb_nil] at h; exact h
  | .pu d :: vs, [], ρ, i, _, h => h
  | .rf j :: vs, [], ρ, i, _, h => h
  | .pu d :: vs, o :: os, ρ, i, _, h => by rw [wb_pu] at h; exact wb_ll h
  | .rf j :: vs, .no :: os, ρ, i, _, h => wb_ll (vas := vs) (outs := os) h
  | .rf j :: vs, .pu _ :: os, ρ, i, _, h => wb_ll (vas := vs) (outs := os) h
  | .rf j :: vs, .ll _ :: os, ρ, i, _, h => wb_ll (vas := vs) (outs := os) h
  | .rf j :: vs, .al _ _ :: os, ρ, i, _, h => wb_ll (vas := vs) (outs := os) h
  | .rf j :: vs, .ow p1 c1 :: os, ρ, i, _, h => by
    rw [wb_rf] at h
    have h' := wb_ll h
    unfold setCt at h'
    split at h'
    · rename_i q c2 hq
      by_cases e : j = i
      · subst e
        rw [List.getElem?_set_self (List.getElem?_eq_some_iff.mp hq).1] at h'
        cases h'
      · rw [List.getElem?_set_ne e] at h'; exact h'
    · exact h'
theorem Sim.inFAfter (S : Sim K G Z ρ σ H) (r : VasR K Z ρ σ H vs vas) (h : argsOf ρ vas = some as) {Z' H' : Hp} (A : After K Z H vs as outs Z' H') {b : Addr} (f : InF (wb vas outs ρ) σ H' b) : InF ρ σ H b := by
  obtain ⟨i, xss, a, bs, e1, e2, e3, hb⟩ := f
  refine S.lx.back (fun c o fc ho => A.fr c o ho fun ⟨n, p, q, h1, h2⟩ => ?_) ⟨i, xss, a, bs, wb_ll e1, e2, e3, hb⟩
  obtain ⟨va, q1, q2⟩ := (argsOf_get (i := n) h).2 _ h1
  obtain ⟨_, j, p', rfl, hr⟩ := argOf_ow q2
  obtain ⟨v, q3, q4⟩ := vasR_get r q1
  rw [h2] at q3
  cases q3
  exact (S.lx.live fc).2.2.2 j p' q hr q4
theorem Sim.resAfter (S : Sim K G Z ρ σ H) {Z' H' : Hp} {v : V} {x : Rs} (hr : ResG K Z' H H' v x) {ρ' : Rho} (S' : Sim K G Z' ρ' σ H') (hk : ∀ (i : Nat) p c, ρ'[i]? = some (Sl.ow p c) → ∃ p' c', ρ[i]? = some (Sl.ow p' c')) (hf : ∀ b, InF ρ' σ H' b → InF ρ σ H b) : RsR K G Z' ρ' σ H' v x := by
  cases x with
  | pu d => exact hr
  | nw c =>
    obtain ⟨a, o, e, n, z, ho, cr⟩ := hr
    refine ⟨a, o, e, ho, cr, z, S.freshIn n, fun i p c' hi q => ?_, fun f => (S.newA n).2 (hf a f)⟩
    obtain ⟨p', c'', hi'⟩ := hk i p c' hi
    obtain ⟨a', o', q', ho', _⟩ := S.ow i p' c'' hi'
    rw [q] at q'
    cases q'
    rw [n] at ho'
    cases ho'
theorem wb_kind : ∀ {vas : List Va} {outs : List Sl} {ρ : Rho} {i : Nat} {p : Bool} {c : Ct}, (wb vas outs ρ)[i]? = some (Sl.ow p c) → ∃ p' c', ρ[i]? = some (Sl.ow p' c')
  | [], os, ρ, i, p, c, h => by rw [wb_nil] at h; exact ⟨p, c, h⟩
  | .pu d :: vs, [], ρ, i, p, c, h => ⟨p, c, h⟩
  | .rf j :: vs, [], ρ, i, p, c, h => ⟨p, c, h⟩
  | .pu d :: vs, o :: os, ρ, i, p, c, h => by rw [wb_pu] at h; exact wb_kind h
  | .rf j :: vs, .no :: os, ρ, i, p, c, h => wb_kind (vas := vs) (outs := os) h
  | .rf j :: vs, .pu _ :: os, ρ, i, p, c, h => wb_kind (vas := vs) (outs := os) h
  | .rf j :: vs, .ll _ :: os, ρ, i, p, c, h => wb_kind (vas := vs) (outs := os) h
  | .rf j :: vs, .al _ _ :: os, ρ, i, p, c, h => wb_kind (vas := vs) (outs := os) h
  | .rf j :: vs, .ow p1 c1 :: os, ρ, i, p, c, h => by
    rw [wb_rf] at h
    obtain ⟨p', c', h'⟩ := wb_kind h
    unfold setCt at h'
    split at h'
    · rename_i q c2 hq
      by_cases e : j = i
      · subst e; exact ⟨q, c2, hq⟩
      · rw [List.getElem?_set_ne e] at h'; exact ⟨p', c', h'⟩
    · exact ⟨p', c', h'⟩
end
section
variable {X : Cx} {G : Gm} {B : Wish} {CX : CXT} {k n : Nat} {f : Addr} {fd : FuncData} {ps : List Str} {g : Fn} {E : XK} {x : Str} {p pos : Pos} {e : Expr} {es : List Expr} {oas : O (List Va)}
/-- what a callee's exception is wished to do here -/
theorem run_call {K : PySem.W.Frag} {σ : L2.St} {H : Hp} {Q : VK} (hB : ∀ x ρ Z σ H, B x ρ Z σ H → ∀ cls d, XnR K Z x cls d H → E cls d H) (hnd : True) (hl : ∀ ρ vas ρ1, oas ρ = .ok vas ρ1 → vas.length = n)
    (w : Run K G B (RsR K G) (oCall g oas) σ H Q) : Run K G B (VasR K) oas σ H fun vs H1 => spD K n g vs H1 Q E := by
  obtain ⟨Z, ρ, S, p⟩ := w
  refine ⟨Z, ρ, S, ?_⟩
  cases ho : oas ρ with
  | st => unfold oCall at p; rw [ho] at p; exact p.elim
  | ex y ρ1 => unfold oCall at p; rw [ho] at p; exact p
  | ok vas ρ1 =>
    unfold oCall at p
    rw [ho] at p
    intro vs Z1 H1 e1 S1 r1
    have p1 : Post K G B (RsR K G) σ Z (call1 g vas ρ1) Q := p
    have r1 : VasR K Z1 ρ1 σ H1 vs vas := r1
    unfold call1 at p1
    split at p1
    · rename_i as ha
      split at p1
      · rename_i nd
        refine ⟨by rw [Paired.length r1]; exact hl ρ vas ρ1 ho, Z1, as, S1.zh, args_of S1 r1 ha nd, ?_⟩
        cases hg : g as with
        | st => rw [hg] at p1; exact p1
        | ret r outs =>
          rw [hg] at p1
          intro v Z' H' A hr
          have S2 := S1.after r1 ha nd A
          exact p1 v Z' H' (e1.trans A.z) S2 (S1.resAfter hr S2 (fun i p c h => wb_kind h) fun b f => S1.inFAfter r1 ha A f)
        | exc y outs =>
          rw [hg] at p1
          intro cls d Z' H' A hx
          exact hB _ _ _ _ _ (p1 Z' H' (e1.trans A.z) (S1.after r1 ha nd A)) cls d hx
      · exact p1.elim
    · exact p1.elim
/-- the number of arguments -/
def Many {α : Type} (n : Nat) (o : O (List α)) : Prop := ∀ ρ as ρ1, o ρ = .ok as ρ1 → as.length = n
theorem many_nil {α : Type} : Many 0 (oNil : O (List α)) := fun ρ as ρ1 h => by cases h; rfl
theorem many_cons {α : Type} {m : Nat} {o : O α} {o' : O (List α)} (h : Many m o') : Many (m + 1) (oCons o o') := fun ρ as ρ1 q => by
  unfold oCons at q
  cases h1 : o ρ with
  | st => rw [h1] at q; cases q
  | ex x ρ2 => rw [h1] at q; cases q
  | ok a ρ2 =>
    rw [h1] at q
    cases h2 : o' ρ2 with
    | st => simp [h2] at q
    | ex x ρ3 => simp [h2] at q
    | ok as' ρ3 =>
      simp [h2] at q
      obtain ⟨rfl, rfl⟩ := q
      simp [h ρ2 as' ρ3 h2]
theorem rd_call (F : FnOk X.prog X.w X.K X.mg X.base CX0 k f fd ps (spD X.K n g)) (hr : Room k X.A) (hg : Gl X x) (hm : X.mg x = some (.ref f)) (hk : PySem.W.keepIn X.K (.ref f) = true) (hb : Binds X.K fd ps [])
    (ha : AD X G noB (e :: es) oas) (hl : Many n oas) (hdb : (x == ("__debug__" : Str)) = false := by decide) (he : starEach (e :: es) X.env = (false, eval e X.env) :: starEach es X.env := by rfl) (hpl : (backTo pos (starEach es X.env)).any (·.1) = false := by rfl) :
    RD X G noB (.Call (.Name x p) (e :: es) [] pos) (oCall g oas) :=
  pe_imp (pe_call F hr hg hm hk hb .nil pass0 ha hdb he hpl) fun σ H Q w => by
    have q := run_call (E := E0) (n := n) (fun _ _ _ _ _ h => h.elim) trivial hl w
    unfold tCall
    simp only [List.append_nil]
    exact q
theorem rd_call0 (F : FnOk X.prog X.w X.K X.mg X.base CX0 k f fd ps (spD X.K 0 g)) (hr : Room k X.A) (hg : Gl X x) (hm : X.mg x = some (.ref f)) (hk : PySem.W.keepIn X.K (.ref f) = true) (hb : Binds X.K fd ps [])
    (hdb : (x == ("__debug__" : Str)) = false := by decide) : RD X G noB (.Call (.Name x p) [] [] pos) (oCall g oNil) :=
  pe_imp (pe_call0 F hr hg hm hk hb .nil pass0 hdb) fun σ H Q w => by
    have q := run_call (E := E0) (n := 0) (fun _ _ _ _ _ h => h.elim) trivial many_nil w
    obtain ⟨Z, ρ, S, p⟩ := q
    exact p [] Z H (.refl _) S .nil
end
end Ow
namespace Ow
open PySem L2
/-! ### dicts -/
def keyOf : D → Option Key
  | .int i => some (.inl i)
  | .str x => some (.inr x)
  | _ => none
def keysOf : List D → Option (List Key)
  | [] => some []
  | d :: ds => match keyOf d, keysOf ds with
    | some k, some ks => some (k :: ks)
    | _, _ => none
def tkOf : D → Option (List Key)
  | .tuple ds => keysOf ds
  | _ => none
section
variable {κ : Type} [DecidableEq κ]
def valD (kvs : List (κ × D)) (k : κ) : Option D := (kvs.find? fun kv => decide (kv.1 = k)).map (·.2)
def putD (kvs : List (κ × D)) (k : κ) (v : D) : List (κ × D) :=
  if (kvs.any fun kv => decide (kv.1 = k)) = true then kvs.map (fun kv => if kv.1 = k then (kv.1, v) else kv) else kvs ++ [(k, v)]
theorem kv_val {K : PySem.W.Frag} {Z : Hp} {kvs : List (κ × V)} {eds : List (κ × D)} (r : KvR K Z kvs eds) (k : κ) : (valD eds k = none ∧ valV kvs k = none) ∨ ∃ d v, valD eds k = some d ∧ valV kvs k = some v ∧ Rp K Z v d := by
  induction r with
  | nil => exact .inl ⟨rfl, rfl⟩
  | @cons p q ps qs h1 h2 ih =>
    obtain ⟨e, r1⟩ := h1
    by_cases hk : p.1 = k
    · refine .inr ⟨q.2, p.2, ?_, ?_, r1⟩
      · unfold valD; rw [List.find?_cons]; simp [← e, hk]
      · unfold valV; rw [List.find?_cons]; simp [hk]
    · have e1 : valD (q :: qs) k = valD qs k := by unfold valD; rw [List.find?_cons]; simp [← e, hk]
      have e2 : valV (p :: ps) k = valV ps k := by unfold valV; rw [List.find?_cons]; simp [hk]
      rw [e1, e2]
      exact ih
theorem kv_any {K : PySem.W.Frag} {Z : Hp} {kvs : List (κ × V)} {eds : List (κ × D)} (r : KvR K Z kvs eds) (k : κ) : (kvs.any fun kv => decide (kv.1 = k)) = (eds.any fun kv => decide (kv.1 = k)) := by
  induction r with
  | nil => rfl
  | cons h1 h2 ih => rw [List.any_cons, List.any_cons, ih, h1.1]
theorem kv_upd {K : PySem.W.Frag} {Z : Hp} (k : κ) {v : V} {d : D} (rv : Rp K Z v d) {kvs : List (κ × V)} {eds : List (κ × D)} (r : KvR K Z kvs eds) : KvR K Z (kvs.map (fun kv => if kv.1 = k then (kv.1, v) else kv)) (eds.map (fun kv => if kv.1 = k then (kv.1, d) else kv)) := by
  induction r with
  | nil => exact .nil
  | @cons p q ps qs h1 h2 ih =>
    refine .cons ?_ ih
    obtain ⟨p1, p2⟩ := p
    obtain ⟨q1, q2⟩ := q
    obtain ⟨e, r1⟩ := h1
    have e : p1 = q1 := e
    subst e
    dsimp only
    split
    · exact ⟨rfl, rv⟩
    · exact ⟨rfl, r1⟩
theorem kv_app {K : PySem.W.Frag} {Z : Hp} (k : κ) {v : V} {d : D} (rv : Rp K Z v d) {kvs : List (κ × V)} {eds : List (κ × D)} (r : KvR K Z kvs eds) : KvR K Z (kvs ++ [(k, v)]) (eds ++ [(k, d)]) := by
  induction r with
  | nil => exact .cons ⟨rfl, rv⟩ .nil
  | cons h1 h2 ih => exact .cons h1 ih
theorem kv_put {K : PySem.W.Frag} {Z : Hp} {kvs : List (κ × V)} {eds : List (κ × D)} (r : KvR K Z kvs eds) (k : κ) {v : V} {d : D} (rv : Rp K Z v d) : KvR K Z (putK kvs k v) (putD eds k d) := by
  unfold putK putD
  rw [kv_any r k]
  split
  · exact kv_upd k rv r
  · exact kv_app k rv r
theorem kv_length {K : PySem.W.Frag} {Z : Hp} {kvs : List (κ × V)} {eds : List (κ × D)} (r : KvR K Z kvs eds) : kvs.length = eds.length := Paired.length r
end
theorem keyOf_v {K : PySem.W.Frag} {Z : Hp} {v : V} {d : D} {k : Key} (r : Rp K Z v d) (h : keyOf d = some k) : v = kV k := by
  unfold keyOf at h
  split at h
  · cases h; cases r; rfl
  · cases h; cases r; rfl
  · cases h
theorem keysOf_v {K : PySem.W.Frag} {Z : Hp} : ∀ {vs : List V} {ds : List D} {ks : List Key}, RpAll K Z vs ds → keysOf ds = some ks → vs = ks.map kV
  | _, [], _, r, h => by cases h; cases r; rfl
  | _, d :: ds, ks, r, h => by
    unfold keysOf at h
    split at h
    · cases h
      cases r with
      | cons r1 r2 => rw [keyOf_v r1 ‹_›, keysOf_v r2 ‹_›]; rfl
    · cases h
/-- a look: none where the key is of another kind -/
def dGet : Ct → D → Option (Option D)
  | .dk kvs, k => (keyOf k).map (valD kvs)
  | .dt kvs, k => (tkOf k).map (valD kvs)
  | _, _ => none
def dPut : Ct → D → D → Option Ct
  | .dk kvs, k, d => if kvs.length < 16000000 then (keyOf k).map fun k => .dk (putD kvs k d) else none
  | .dt kvs, k, d => if kvs.length < 16000000 then (tkOf k).map fun k => .dt (putD kvs k d) else none
  | _, _, _ => none
section
variable {K : PySem.W.Frag} {Z H : Hp} {a : Addr} {o : HO} {c : Ct} {y : V} {k : D}
theorem dGet_v (ho : H a = some o) (e : Same Z H) (r : CtR K Z o c) (ry : Rp K Z y k) {x : Option D} (h : dGet c k = some x) : ∃ xv : Option V, DGet H a y xv ∧ ((x = none ∧ xv = none) ∨ ∃ d v, x = some d ∧ xv = some v ∧ Rp K Z v d) := by
  unfold dGet at h
  split at h
  · rename_i kvs
    cases q : keyOf k with
    | none => rw [q] at h; cases h
    | some kk =>
      rw [q] at h
      cases h
      cases o with
      | dK vs => rw [keyOf_v ry q]; exact ⟨_, DGet.k ho, (kv_val (show KvR K Z vs kvs from r) kk)⟩
      | _ => exact r.elim
  · rename_i kvs
    cases q : tkOf k with
    | none => rw [q] at h; cases h
    | some kk =>
      rw [q] at h
      cases h
      unfold tkOf at q
      split at q
      · rename_i ds
        cases ry with
        | tup h1 h2 =>
          rw [keysOf_v h2 q] at h1
          cases o with
          | dT vs => exact ⟨_, DGet.t ho (e _ _ h1), (kv_val (show KvR K Z vs kvs from r) kk)⟩
          | _ => exact r.elim
      · cases q
  · cases h
theorem dPut_v (ho : H a = some o) (e : Same Z H) (r : CtR K Z o c) (ry : Rp K Z y k) {d : D} {v : V} (rv : Rp K Z v d) {c' : Ct} (h : dPut c k d = some c') : ∃ o', DPut H a y v (upd H a o') ∧ CtR K Z o' c' := by
  unfold dPut at h
  split at h
  · rename_i kvs
    split at h
    · rename_i hl
      cases q : keyOf k with
      | none => rw [q] at h; cases h
      | some kk =>
        rw [q] at h
        cases h
        cases o with
        | dK vs =>
          rw [keyOf_v ry q]
          have r' : KvR K Z vs kvs := r
          exact ⟨_, DPut.k ho (by rw [kv_length r']; exact lim_lt hl), kv_put r' kk rv⟩
        | _ => exact r.elim
    · cases h
  · rename_i kvs
    split at h
    · rename_i hl
      cases q : tkOf k with
      | none => rw [q] at h; cases h
      | some kk =>
        rw [q] at h
        cases h
        unfold tkOf at q
        split at q
        · rename_i ds
          cases ry with
          | tup h1 h2 =>
            rw [keysOf_v h2 q] at h1
            cases o with
            | dT vs =>
              have r' : KvR K Z vs kvs := r
              exact ⟨_, DPut.t ho (e _ _ h1) (by rw [kv_length r']; exact lim_lt hl), kv_put r' kk rv⟩
            | _ => exact r.elim
        · cases q
    · cases h
  · cases h
end
def isDic (s : Option Sl) : Bool := match s with
  | some (.ow _ (.dk _)) => true
  | some (.ow _ (.dt _)) => true
  | _ => false
def vaDic (ρ : Rho) : Va → Bool
  | .rf i => isDic ρ[i]?
  | _ => false
@[simp] theorem vaDic_pu (ρ : Rho) (d : D) : vaDic ρ (.pu d) = false := rfl
def ctOf (ρ : Rho) : Va → Option Ct
  | .rf i => match ρ[i]? with
    | some (.ow _ c) => some c
    | _ => none
  | _ => none
/-! .. {} -/
def oNewK : O Rs := fun ρ => .ok (.nw (.dk [])) ρ
def oNewT : O Rs := fun ρ => .ok (.nw (.dt [])) ρ
section
variable {X : Cx} {G : Gm} {B : Wish} {pos : Pos}
theorem rd_newK : RD X G B (.Dict [] [] pos) oNewK := pe_imp pe_dnewK fun σ H Q ⟨Z, ρ, S, p⟩ q hq =>
  p.fin S (.loose S.zh hq _) ⟨q, .dK [], rfl, hq, S.fresh hq, upd_same, (show KvR X.K Z [] [] from .nil)⟩
theorem rd_newT : RD X G B (.Dict [] [] pos) oNewT := pe_imp pe_dnewT fun σ H Q ⟨Z, ρ, S, p⟩ q hq =>
  p.fin S (.loose S.zh hq _) ⟨q, .dT [], rfl, hq, S.fresh hq, upd_same, (show KvR X.K Z [] [] from .nil)⟩
end
/-! .. a[b], a in b, whatever stands there -/
def dix1 (a b : Va) (ρ : Rho) : M Rs := match ctOf ρ a, rdV ρ b with
  | some c, some k => match dGet c k with
    | some (some d) => .ok (.pu d) ρ
    | _ => .st
  | _, _ => .st
def ixA1 (a b : Va) (ρ : Rho) : M Rs := if vaDic ρ a = true then dix1 a b ρ else bin1 fIx a b ρ
@[simp] theorem ixA1_pu (a : D) (b : Va) (ρ : Rho) : ixA1 (.pu a) b ρ = bin1 fIx (.pu a) b ρ := rfl
def oIxA (oa ob : O Va) : O Rs := fun ρ => (oa ρ).bind fun a ρ1 => (ob ρ1).bind fun b ρ2 => ixA1 a b ρ2
def din1 (neg : Bool) (a b : Va) (ρ : Rho) : M Rs := match rdV ρ a, ctOf ρ b with
  | some k, some c => match dGet c k with
    | some o => .ok (.pu (.bool (if neg then !o.isSome else o.isSome))) ρ
    | none => .st
  | _, _ => .st
def inA1 (neg : Bool) (a b : Va) (ρ : Rho) : M Rs := if vaDic ρ b = true then din1 neg a b ρ else bin1 (fIn neg) a b ρ
@[simp] theorem inA1_pu (neg : Bool) (a : Va) (b : D) (ρ : Rho) : inA1 neg a (.pu b) ρ = bin1 (fIn neg) a (.pu b) ρ := rfl
def oInA (neg : Bool) (oa ob : O Va) : O Rs := fun ρ => (oa ρ).bind fun a ρ1 => (ob ρ1).bind fun b ρ2 => inA1 neg a b ρ2
section
variable {X : Cx} {G : Gm} {B : Wish} {a b : Expr} {pos : Pos} {oa ob : O Va}
theorem ctOf_at {K : PySem.W.Frag} {Z : Hp} {ρ : Rho} {σ : St} {H : Hp} {v : V} {x : Va} {c : Ct} (S : Sim K G Z ρ σ H) {ρ' : Rho} {H' : Hp} (r : VaR K Z ρ' σ H' v x) (h : ctOf ρ x = some c) : ∃ ad o, v = .ref ad ∧ H ad = some o ∧ CtR K Z o c := by
  cases x with
  | pu d => cases h
  | rf i =>
    unfold ctOf at h
    dsimp only at h
    split at h
    · rename_i p c' hr
      cases h
      obtain ⟨ad, o, q, ho, rc, _⟩ := S.ow i p _ hr
      have r : σ[i]? = some (some v) := r
      rw [q] at r
      cases r
      exact ⟨ad, o, rfl, ho, rc⟩
    · cases h
/-- two operands, then one of two rules, as they turn out -/
theorem run_two {K : PySem.W.Frag} {R1 R2' : L2.R2} {f1 f2 : Va → Va → Rho → M Rs} {t : Rho → Va → Va → Bool} {σ : St} {H : Hp} {Q : VK}
    (h1 : ∀ σ Z H ρ x y a b Q, Sim K G Z ρ σ H → VaR K Z ρ σ H x a → VaR K Z ρ σ H y b → t ρ a b = true → Post K G B (RsR K G) σ Z (f1 a b ρ) Q → R1 x y H Q)
    (h2 : ∀ σ Z H ρ x y a b Q, Sim K G Z ρ σ H → VaR K Z ρ σ H x a → VaR K Z ρ σ H y b → t ρ a b = false → Post K G B (RsR K G) σ Z (f2 a b ρ) Q → R2' x y H Q)
    (w : Run K G B (RsR K G) (fun ρ => (oa ρ).bind fun a ρ1 => (ob ρ1).bind fun b ρ2 => if t ρ2 a b = true then f1 a b ρ2 else f2 a b ρ2) σ H Q) :
    tOp R1 (Run K G B (VaR K) oa) (Run K G B (VaR K) ob) σ H Q ∨ tOp R2' (Run K G B (VaR K) oa) (Run K G B (VaR K) ob) σ H Q := by
  obtain ⟨Z, ρ, S, p⟩ := w
  have p : Post K G B (RsR K G) σ Z ((oa ρ).bind fun a ρ1 => (ob ρ1).bind fun b ρ2 => if t ρ2 a b = true then f1 a b ρ2 else f2 a b ρ2) Q := p
  cases ha : oa ρ with
  | st => rw [ha] at p; exact p.elim
  | ex x ρ1 => rw [ha] at p; exact .inl ⟨Z, ρ, S, by rw [ha]; exact p⟩
  | ok a ρ1 =>
    rw [ha] at p
    have p : Post K G B (RsR K G) σ Z ((ob ρ1).bind fun b ρ2 => if t ρ2 a b = true then f1 a b ρ2 else f2 a b ρ2) Q := p
    cases hb : ob ρ1 with
    | st => rw [hb] at p; exact p.elim
    | ex x ρ2 =>
      rw [hb] at p
      refine .inl ⟨Z, ρ, S, ?_⟩
      rw [ha]
      intro x Z1 H1 e1 S1 r1
      refine ⟨Z1, ρ1, S1, ?_⟩
      rw [hb]
      exact fun Z2 H2 e2 S2 => p Z2 H2 (e1.trans e2) S2
    | ok b ρ2 =>
      rw [hb] at p
      have p : Post K G B (RsR K G) σ Z (if t ρ2 a b = true then f1 a b ρ2 else f2 a b ρ2) Q := p
      have mono : ∀ {Z1 : Hp} {m : M Rs}, Same Z Z1 → Post K G B (RsR K G) σ Z m Q → Post K G B (RsR K G) σ Z1 m Q := fun {Z1 m} e h => by
        cases m with
        | st => exact h
        | ok r ρ3 => exact fun v Z' H' e' => h v Z' H' (e.trans e')
        | ex x ρ3 => exact fun Z' H' e' => h Z' H' (e.trans e')
      cases ht : t ρ2 a b with
      | true =>
        rw [ht, if_pos rfl] at p
        refine .inl ⟨Z, ρ, S, ?_⟩
        rw [ha]
        intro x Z1 H1 e1 S1 r1
        refine ⟨Z1, ρ1, S1, ?_⟩
        rw [hb]
        intro y Z2 H2 e2 S2 r2
        exact h1 σ Z2 H2 ρ2 x y a b Q S2 (VaR.mono r1 e2) r2 ht (mono (e1.trans e2) p)
      | false =>
        rw [ht, if_neg Bool.false_ne_true] at p
        refine .inr ⟨Z, ρ, S, ?_⟩
        rw [ha]
        intro x Z1 H1 e1 S1 r1
        refine ⟨Z1, ρ1, S1, ?_⟩
        rw [hb]
        intro y Z2 H2 e2 S2 r2
        exact h2 σ Z2 H2 ρ2 x y a b Q S2 (VaR.mono r1 e2) r2 ht (mono (e1.trans e2) p)
theorem rd_ixA {k : Nat} (hr : Room k X.A) (ha : ED X G B a oa) (hb : ED X G B b ob) (hs : PlainIx b := by exact fun _ _ => rfl) (hs' : NoSl b := by exact fun _ _ => rfl) : RD X G B (.Subscript a b pos) (oIxA oa ob) := by
  refine pe_imp (pe_alt (pe_dget (hu_of hr) ha hb hs') (pe_ix ix_seq ha hb hs)) fun σ H Q w => ?_
  refine run_two (R1 := fun x y H Q => ∃ ad v, x = .ref ad ∧ DGet H ad y (some v) ∧ Q v H) (R2' := rIx X.K) (f1 := dix1) (f2 := bin1 fIx) (t := fun ρ a b => vaDic ρ a) ?_ ?_ w
  · intro σ Z H ρ x y a b Q S r1 r2 _ p
    unfold dix1 at p
    split at p
    · rename_i c kd hc hk
      split at p
      · rename_i d hd
        obtain ⟨ad, o, rfl, ho, rc⟩ := ctOf_at S r1 hc
        have rk : Rp X.K Z y kd := (S.rdb r2 hk).keptD fun ds e => by subst e; cases c <;> cases hd
        obtain ⟨xv, g, q⟩ := dGet_v ho S.zh rc rk hd
        rcases q with ⟨e, _⟩ | ⟨d', v, e, rfl, rv⟩
        · cases e
        · cases e
          exact ⟨ad, v, rfl, g, p.fin S (.refl S.zh) rv⟩
      · exact p.elim
    · exact p.elim
  · intro σ Z H ρ x y a b Q S r1 r2 _ p
    exact bin1_run binS_ix S r1 r2 p
theorem rd_inA {k : Nat} (hr : Room k X.A) (ha : ED X G B a oa) (hb : ED X G B b ob) (hm : behindInMarks .In b = false := by rfl) : RD X G B (.Compare a [.In] [b] pos) (oInA false oa ob) := by
  refine pe_imp (pe_alt (pe_cmp (pc_din (hu_of hr) ha hb) hm) (pe_cmpR op_inAll ha hb hm)) fun σ H Q w => ?_
  refine run_two (R1 := fun y x H Q => ∃ ad o, x = .ref ad ∧ DGet H ad y o ∧ Q (.bl o.isSome) H) (R2' := rInAll X.K false) (f1 := din1 false) (f2 := bin1 (fIn false)) (t := fun ρ a b => vaDic ρ b) ?_ ?_ w
  · intro σ Z H ρ y x a b Q S r1 r2 _ p
    unfold din1 at p
    split at p
    · rename_i kd c hk hc
      split at p
      · rename_i o hd
        obtain ⟨ad, ob, rfl, ho, rc⟩ := ctOf_at S r2 hc
        have rk : Rp X.K Z y kd := (S.rdb r1 hk).keptD fun ds e => by subst e; cases c <;> cases hd
        obtain ⟨xv, g, q⟩ := dGet_v ho S.zh rc rk hd
        refine ⟨ad, xv, rfl, g, ?_⟩
        rcases q with ⟨rfl, rfl⟩ | ⟨d', v, rfl, rfl, rv⟩
        · exact p.fin S (.refl S.zh) (.bl _)
        · exact p.fin S (.refl S.zh) (.bl _)
      · exact p.elim
    · exact p.elim
  · intro σ Z H ρ x y a b Q S r1 r2 _ p
    exact bin1_run binS_in S r1 r2 p
theorem rd_notinA {k : Nat} (hr : Room k X.A) (ha : ED X G B a oa) (hb : ED X G B b ob) (hm : behindInMarks .NotIn b = false := by rfl) : RD X G B (.Compare a [.NotIn] [b] pos) (oInA true oa ob) := by
  refine pe_imp (pe_alt (pe_cmp (pc_dnotin (hu_of hr) ha hb) hm) (pe_cmpR op_notInAll ha hb hm)) fun σ H Q w => ?_
  refine run_two (R1 := fun y x H Q => ∃ ad o, x = .ref ad ∧ DGet H ad y o ∧ Q (.bl (!o.isSome)) H) (R2' := rInAll X.K true) (f1 := din1 true) (f2 := bin1 (fIn true)) (t := fun ρ a b => vaDic ρ b) ?_ ?_ w
  · intro σ Z H ρ y x a b Q S r1 r2 _ p
    unfold din1 at p
    split at p
    · rename_i kd c hk hc
      split at p
      · rename_i o hd
        obtain ⟨ad, ob, rfl, ho, rc⟩ := ctOf_at S r2 hc
        have rk : Rp X.K Z y kd := (S.rdb r1 hk).keptD fun ds e => by subst e; cases c <;> cases hd
        obtain ⟨xv, g, q⟩ := dGet_v ho S.zh rc rk hd
        refine ⟨ad, xv, rfl, g, ?_⟩
        rcases q with ⟨rfl, rfl⟩ | ⟨d', v, rfl, rfl, rv⟩
        · exact p.fin S (.refl S.zh) (.bl _)
        · exact p.fin S (.refl S.zh) (.bl _)
      · exact p.elim
    · exact p.elim
  · intro σ Z H ρ x y a b Q S r1 r2 _ p
    exact bin1_run binS_in S r1 r2 p
theorem td_rdc {o : O Rs} {op : CmpOp} (h : RD X G B (.Compare a [op] [b] pos) o) (he : ∀ whole, isTrue (.Compare a [op] [b] pos) X.env whole = (do let v ← whole; standAt (Expr.Compare a [op] [b] pos).pos; holding [v] (truthy v)) := by intro _; rfl) : TD X G B (.Compare a [op] [b] pos) (oTst o) := td_rd h he
end
/-! .. d[k] = e, xs[i] = e -/
theorem ps_alt {X : Cx} {e : Stmt} {t t' : TS} (h : PS X e t) (h' : PS X e t') : PS X e (fun D σ H => t D σ H ∨ t' D σ H) := ⟨fun pins s σ H D I w => w.elim (h.run pins s σ H D I) (h'.run pins s σ H D I)⟩
def stD1 (k : Nat) (d i : D) (ρ : Rho) : Mo := match ρ[k]? with
  | some (.ow p c) => match dPut c i d with
    | some c' => .nx (ρ.set k (.ow p c'))
    | none => .st
  | _ => .st
def oStD (k : Nat) (ov oi : O D) : Os := fun ρ => (ov ρ).bindS fun d ρ1 => match ρ1[k]? with
  | some (.ow _ _) => (oi ρ1).bindS fun i ρ2 => stD1 k d i ρ2
  | _ => .st
def oStA (k : Nat) (ov oi : O D) : Os := fun ρ => if isDic ρ[k]? = true then oStD k ov oi ρ else oStL k ov oi ρ
section
variable {X : Cx} {G : Gm} {B : Wish} {e o ix : Expr} {pos pos' tpos npos : Pos} {x : Str}
theorem sd_stD (k : Nat) {kr : Nat} {ov oi : O D} (hr : Room kr X.A) (hv : PD X G B e ov) (hi : PD X G B ix oi)
    (hN : X.N[k]? = some x := by rfl) (hvis : Vis X.env.scope x := by first | exact Or.inl rfl | exact Or.inr (Or.inl rfl) | exact Or.inr (Or.inr rfl)) (hd : (x == ("__debug__" : Str)) = false := by decide)
    (hcd : (x == ("__classdict__" : Str)) = false := by decide) (hs : swapsWith e (some (.Subscript (.Name x npos) ix pos')) pos.line X.env = pure false := by rfl) : SD X G B (.Assign [.Subscript (.Name x npos) ix pos'] e pos) (oStD k ov oi) :=
  ps_imp (ps_dput (hu_of hr) (pe_var (i := k) hN hvis hd hcd) hi hv hs) fun D σ H w => runS_bind (C := fun v H1 => tVar k σ H1 fun x H2 => Run X.K G B (PuR X.K) oi σ H2 fun y H3 => ∃ a H4, x = .ref a ∧ DPut H3 a y v H4 ∧ D.nx σ H4) w fun v d ρ1 Z1 H1 S1 rv p1 => by
    split at p1
    · rename_i p c h
      obtain ⟨a, ob, q, ho, r1, z, _⟩ := S1.ow k _ _ h
      refine ⟨_, q, Z1, ρ1, S1, PostS.bind p1 fun iv di ρ2 Z2 H2 e2 S2 r2 p2 => ?_⟩
      unfold stD1 at p2
      split at p2
      · rename_i p' c' h'
        split at p2
        · rename_i c2 hc
          obtain ⟨a2, o2, q2, ho2, r2', z2, _⟩ := S2.ow k _ _ h'
          rw [q] at q2
          cases q2
          obtain ⟨o', g, rc⟩ := dPut_v ho2 S2.zh r2' r2 (Rp.mono rv e2) hc
          exact ⟨a, _, rfl, g, p2 σ Z2 _ (.refl _) (S2.write h' q rc)⟩
        · exact p2.elim
      · exact p2.elim
    · exact p1.elim
theorem sd_stA (k : Nat) {kr : Nat} {ov oi : O D} (hr : Room kr X.A) (hv : PD X G B e ov) (hi : PD X G B ix oi)
    (hN : X.N[k]? = some x := by rfl) (hvis : Vis X.env.scope x := by first | exact Or.inl rfl | exact Or.inr (Or.inl rfl) | exact Or.inr (Or.inr rfl)) (hd : (x == ("__debug__" : Str)) = false := by decide)
    (hcd : (x == ("__classdict__" : Str)) = false := by decide) (hs : swapsWith e (some (.Subscript (.Name x npos) ix pos')) pos.line X.env = pure false := by rfl)
    (ha : ∀ v, assign (.Subscript (.Name x npos) ix pos') X.env v = (do
      let ov ← holding [v] (eval (.Name x npos) X.env)
      let iv ← holding [v, ov] (eval ix X.env)
      standAt pos'
      holding [v, ov, iv] (setItem ov iv v)
      release [v, ov, iv] []) := by intro _; rfl)
    (hs1 : swapsWithSole [.Subscript (.Name x npos) ix pos'] e pos.line X.env = pure false := by rfl) (hw : swappedStores [.Subscript (.Name x npos) ix pos'] e X.env = pure none := by rfl)
    (h1 : (assignEach [.Subscript (.Name x npos) ix pos'] X.env).map (·.2) = [assign (.Subscript (.Name x npos) ix pos') X.env] := by rfl) :
    SD X G B (.Assign [.Subscript (.Name x npos) ix pos'] e pos) (oStA k ov oi) :=
  ps_imp (ps_alt (sd_stD k hr hv hi hN hvis hd hcd hs) (sd_stL k hv hi hN hvis hd hcd ha hs1 hw h1)) fun D σ H ⟨Z, ρ, S, p⟩ => by
    unfold oStA at p
    split at p
    · exact .inl ⟨Z, ρ, S, p⟩
    · exact .inr ⟨Z, ρ, S, p⟩
end
/-! .. d.get(k), d.get(k, x) -/
def get1 (dfl : D) (a b : Va) (ρ : Rho) : M Rs := match ctOf ρ a, rdV ρ b with
  | some c, some k => match dGet c k with
    | some o => .ok (.pu (o.getD dfl)) ρ
    | none => .st
  | _, _ => .st
def get2 (dfl a b : Va) (ρ : Rho) : M Rs := match dfl with
  | .pu d => get1 d a b ρ
  | _ => .st
def kDic (a : Va) (ρ : Rho) (m : M Rs) : M Rs := if vaDic ρ a = true then m else .st
def oGet1 (oa ob : O Va) : O Rs := fun ρ => (oa ρ).bind fun a ρ1 => kDic a ρ1 ((ob ρ1).bind fun b ρ2 => get1 .none a b ρ2)
def oGet2 (oa ob : O Va) (oc : O D) : O Rs := fun ρ => (oa ρ).bind fun a ρ1 => kDic a ρ1 ((ob ρ1).bind fun b ρ2 => (oc ρ2).bind fun c ρ3 => get1 c a b ρ3)
theorem isDic_at {K : PySem.W.Frag} {G : Gm} {Z : Hp} {ρ : Rho} {σ : St} {H : Hp} {v : V} {x : Va} (S : Sim K G Z ρ σ H) {ρ' : Rho} {H' : Hp} (r : VaR K Z ρ' σ H' v x) (h : vaDic ρ x = true) : ∃ ad, v = .ref ad ∧ IsD H ad := by
  cases x with
  | pu d => cases h
  | rf i =>
    have h : isDic ρ[i]? = true := h
    have r : σ[i]? = some (some v) := r
    unfold isDic at h
    split at h
    · rename_i p kvs hr
      obtain ⟨ad, o, q, ho, rc, _⟩ := S.ow i p _ hr
      rw [q] at r
      cases r
      cases o with
      | dK vs => exact ⟨ad, rfl, .inl ⟨vs, .of ho⟩⟩
      | _ => exact rc.elim
    · rename_i p kvs hr
      obtain ⟨ad, o, q, ho, rc, _⟩ := S.ow i p _ hr
      rw [q] at r
      cases r
      cases o with
      | dT vs => exact ⟨ad, rfl, .inr ⟨vs, .of ho⟩⟩
      | _ => exact rc.elim
    · cases h
theorem pu_rp {K : PySem.W.Frag} {Z H : Hp} {ρ : Rho} {σ : St} {v : V} {x : Va} {d : D} {G : Gm} (S : Sim K G Z ρ σ H) (r : VaR K Z ρ σ H v x) (h : rdV ρ x = some d) {c : Ct} {o : Option D} (hd : dGet c d = some o) : Rp K Z v d :=
  (S.rdb r h).keptD fun ds e => by subst e; cases c <;> cases hd
section
variable {X : Cx} {G : Gm} {B : Wish} {oa ob : O Va}
theorem get1_run {σ : St} {Z H : Hp} {ρ : Rho} {x y : V} {a b : Va} {Q : VK} {dfl : D} {dv : V} (S : Sim X.K G Z ρ σ H) (r1 : VaR X.K Z ρ σ H x a) (r2 : VaR X.K Z ρ σ H y b) (rd : Rp X.K Z dv dfl) (p : Post X.K G B (RsR X.K G) σ Z (get1 dfl a b ρ) Q) : ∃ ad o, x = .ref ad ∧ DGet H ad y o ∧ Q (o.getD dv) H := by
  unfold get1 at p
  split at p
  · rename_i c kd hc hk
    split at p
    · rename_i o hd
      obtain ⟨ad, ob, rfl, ho, rc⟩ := ctOf_at S r1 hc
      obtain ⟨xv, g, q⟩ := dGet_v ho S.zh rc (pu_rp S r2 hk hd) hd
      refine ⟨ad, xv, rfl, g, ?_⟩
      rcases q with ⟨rfl, rfl⟩ | ⟨d', v, rfl, rfl, rv⟩
      · exact p.fin S (.refl S.zh) rd
      · exact p.fin S (.refl S.zh) rv
    · exact p.elim
  · exact p.elim
end
end Ow
namespace Ow
open PySem L2
/-! ### a text so many times -/
def repT (x : Str) (n : Int) : Str := Txt.mul x n
abbrev rMulS : R2 := fun x y H Q => ∃ a n, x = V.str a ∧ y = V.int n ∧ MulOk a n ∧ Q (V.str (Txt.mul a n)) H
theorem op_mulS {X : Cx} : OpR X (binaryOp .Mult) rMulS := by
  intro pins s σ H x y v u Q I rx ry h
  obtain ⟨i, j, rfl, rfl, hz, q⟩ := h
  obtain ⟨t, rfl⟩ := rx
  obtain ⟨t', rfl⟩ := ry
  exact SB.mul hz (fun t' tk => ⟨.str (Txt.mul i j), H, I.tok _, ⟨_, rfl⟩, q⟩)
def mulSok (a : Str) (n : Int) : Bool := decide (n.natAbs < 1000000 ∧ a.length * n.toNat ≤ 16000000)
theorem mulSok_c {a : Str} {n : Int} (h : mulSok a n = true) : MulOk a n := by
  unfold mulSok at h
  obtain ⟨h1, h3⟩ := of_decide_eq_true h
  refine ⟨?_, fun h4 _ => ?_, fun _ _ => ?_⟩
  · rw [Bool.or_eq_false_iff]
    exact ⟨decide_eq_false (by omega), decide_eq_false (by omega)⟩
  · intro h5
    have h6 : (a.length : Int) ≤ (2 ^ 63 - 1) / n := by
      rw [Int.le_ediv_iff_mul_le (by omega)]
      have h7 : (a.length : Int) * n = ((a.length * n.toNat : Nat) : Int) := by
        rw [Int.natCast_mul, Int.toNat_of_nonneg (by omega)]
      rw [h7]
      omega
    omega
  · unfold Builtin.Str.tooLong
    exact decide_eq_false (Nat.not_lt.mpr (lim_le h3))
def fMulX : D → D → Option Rs
  | .str a, .int n => if mulSok a n = true then some (.pu (.str (repT a n))) else none
  | a, b => fMul a b
theorem binS_mulX {K : PySem.W.Frag} : BinS K (fun x y H Q => rMulS x y H Q ∨ rMulAll x y H Q) fMulX := by
  intro x y dx dy R Z H Q e rx ry hf k
  unfold fMulX at hf
  split at hf
  · split at hf
    · cases hf
      exact .inl ⟨_, _, rx.str, ry.int, mulSok_c ‹_›, k _ Z H (.refl e) (.str _)⟩
    · cases hf
  · exact .inr (binS_mul x y _ _ R Z H Q e rx ry hf k)
/-! ### int(x), also of a text -/
def fIntX : List D → Option Rs
  | [.str a] => if a.length ≤ 640 then (PySem.intText? a).map fun n => .pu (.int n) else none
  | ds => fInt1 ds
theorem callS_intX {K : PySem.W.Frag} {r : List V → Hp → VK → Prop} (h : CallS K r fInt1) : CallS K (fun xs H Q => (∃ a n, xs = [.str a] ∧ PySem.intText? a = some n ∧ a.length ≤ 640 ∧ Q (.int n) H) ∨ r xs H Q) fIntX := by
  intro vs ds R Z H Q e rv hf k
  unfold fIntX at hf
  split at hf
  · split at hf
    · rename_i a hl
      obtain ⟨v, rfl, r1⟩ := Paired.one rv
      rw [r1.str]
      cases q : PySem.intText? a with
      | none => rw [q] at hf; cases hf
      | some n =>
        rw [q] at hf
        cases hf
        exact .inl ⟨_, _, rfl, q, hl, k _ Z H (.refl e) (.int _)⟩
    · cases hf
  · exact .inr (h vs _ R Z H Q e rv hf k)
/-! ### isinstance, one built-in class -/
def tyName : D → Option String
  | .none => some "NoneType"
  | .bool _ => some "bool"
  | .int _ => some "int"
  | .str _ => some "str"
  | .list _ => some "list"
  | .tuple _ => some "tuple"
  | .dict [(.none, .list _)] => some "list"
  | .dict [(.bool true, .tuple _)] => some "tuple"
  | _ => none
theorem tyName_v {K : PySem.W.Frag} {Z H : Hp} {v : V} {d : D} {n : String} (h : tyName d = some n) (r : Rdb K Z H v d) (e : Same Z H) : TyX K H v (.type n) := by
  unfold tyName at h
  split at h
  · cases h; rcases r with r | ⟨_, _, _, _, q, _⟩
    · cases r; exact .base .non
    · cases q
  · cases h; rw [r.bl]; exact .base (.bl _)
  · cases h; rw [r.int]; exact .base (.int _)
  · cases h; rw [r.str]; exact .base (.str _)
  · cases h; obtain ⟨a, vs, rfl, ha, _⟩ := r.list e; exact .base (.lst ha)
  · cases h; obtain ⟨a, vs, rfl, ha, _⟩ := r.tup e; exact .base (.tup ha)
  · cases h
    obtain ⟨a, vs, rfl, ha, _⟩ := r.scr e
    rcases ha with (ha | ⟨o, ha⟩) | ⟨o, _, _, ho, hc, _⟩
    · exact .base (.lst ha)
    · exact .base (.frz ha)
    · exact .kList ho hc
  · cases h
    obtain ⟨a, vs, rfl, ha, _⟩ := r.kon e
    rcases ha with (ha | ⟨o, ha⟩) | ⟨o, _, _, ho, hc, _⟩
    · exact .base (.tup ha)
    · exact .fTuple ha
    · exact .kTuple ho hc
  · cases h
/-- a built-in class, its name among the program's words -/
def isi1 (T : String) (a : Va) (ρ : Rho) : M Rs := match rdV ρ a with
  | some d => match tyName d with
    | some n => match kitB n T with
      | some b => .ok (.pu (.bool b)) ρ
      | none => .st
    | none => .st
  | none => .st
def oIsi (T : String) (o : O Va) : O Rs := fun ρ => (o ρ).bind (isi1 T)
section
variable {X : Cx} {G : Gm} {B : Wish} {e : Expr} {p p2 pos : Pos} {oa : O Va} {T : String} {x : Str}
theorem rd_isi (hg : Gl X "isinstance") (hm : X.mg "isinstance" = none) (ha : ED X G B e oa) (hgT : Gl X x) (hmT : X.mg x = none) (hvT : bootBuiltins x = some (.type T)) (hnT : x ≠ "__name__" := by decide) (hdT : (x == ("__debug__" : Str)) = false := by decide)
    (he : starEach [e, .Name x p2] X.env = (false, eval e X.env) :: starEach [.Name x p2] X.env := by rfl) (he2 : starEach [.Name x p2] X.env = (false, eval (.Name x p2) X.env) :: starEach [] X.env := by rfl)
    (hpl : (backTo pos (starEach [.Name x p2] X.env)).any (·.1) = false := by rfl) (hv : bootBuiltins "isinstance" = some (.builtin "isinstance") := by rfl) : RD X G B (.Call (.Name "isinstance" p) [e, .Name x p2] [] pos) (oIsi T oa) :=
  pe_imp (pe_callB call_isi hg hm hv (pa_cons ha (pa_cons (pe_bltn (v := .ty T) hgT hmT hvT rfl hnT hdT) pa_nil he2) he) (by decide) (by decide) he hpl) fun σ H Q w => run_imp w fun v va ρ1 Z1 H1 S1 r1 p1 => by
    unfold isi1 at p1
    split at p1
    · rename_i d hd
      split at p1
      · rename_i n hn
        split at p1
        · rename_i b hb
          exact ⟨v, .ty T, .type n, .type T, b, rfl, .ty T, tyName_v hn (S1.rdb r1 hd) S1.zh, kit_ty hb, p1.fin S1 (.refl S1.zh) (.bl _)⟩
        · exact p1.elim
      · exact p1.elim
    · exact p1.elim
/-! ### names of the module -/
def Kn (K : PySem.W.Frag) (mg : Str → Option Value) (x : Str) (d : D) : Prop := ∃ v u, mg x = some u ∧ RelV v u ∧ ∀ Z, Rp K Z v d
theorem kn_str {K : PySem.W.Frag} {mg : Str → Option Value} {x z : Str} (h : ∃ t, mg x = some (.str z t)) : Kn K mg x (.str z) := by
  obtain ⟨t, h⟩ := h
  exact ⟨.str z, _, h, ⟨t, rfl⟩, fun Z => .str z⟩
theorem kn_int {K : PySem.W.Frag} {mg : Str → Option Value} {x : Str} {z : Int} (h : ∃ t, mg x = some (.int z t)) : Kn K mg x (.int z) := by
  obtain ⟨t, h⟩ := h
  exact ⟨.int z, _, h, ⟨t, rfl⟩, fun Z => .int z⟩
theorem kn_tup {K : PySem.W.Frag} {mg : Str → Option Value} {a : Addr} {vs : List V} {ds : List D} (h : mg x = some (.ref a)) (hs : ∀ H, SqT K H a vs) (hd : ∀ Z, RpAll K Z vs ds) : Kn K mg x (kon ds) := ⟨.ref a, _, h, rfl, fun Z => .kon (hs Z) (hd Z)⟩
theorem pd_kn {d : D} (hg : Gl X x) (h : Kn X.K X.mg x d) (hd : (x == ("__debug__" : Str)) = false := by decide) : PD X G B (.Name x pos) (oC d) := by
  obtain ⟨v, u, hm, r, hz⟩ := h
  exact pd_const (pe_glob hg hm r hd) hz
end
section
variable {X : Cx} {G : Gm} {B : Wish} {a b : Expr} {pos : Pos} {oa ob : O Va}
theorem rd_mulX (ha : ED X G B a oa) (hb : ED X G B b ob) : RD X G B (.BinOp a .Mult b pos) (oBin fMulX oa ob) := rd_bin (op_mulS.or op_mulAll) binS_mulX ha hb
end
end Ow
namespace Ow
open PySem PySem.Spec PyProof.Rows L2
/-! ### short names for the built-ins -/
section
variable {X : Cx} {G : Gm} {B : Wish} {p pos apos npos cpos : Pos} {e o : Expr} {es : List Expr} {oas : O (List Va)} {oo : O Va} {x : Str}
theorem zb_list (hg : Gl X "list") (hm : X.mg "list" = none) (ha : AD X G B (e :: es) oas) (he : starEach (e :: es) X.env = (false, eval e X.env) :: starEach es X.env := by rfl) (hpl : (backTo pos (starEach es X.env)).any (·.1) = false := by rfl) : RD X G B (.Call (.Name "list" p) (e :: es) [] pos) (oCB fList oas) :=
  rd_callTy call_list_of callS_list hg hm boot_list ha (by decide) (by decide) he hpl
theorem zb_tuple (hg : Gl X "tuple") (hm : X.mg "tuple" = none) (ha : AD X G B (e :: es) oas) (he : starEach (e :: es) X.env = (false, eval e X.env) :: starEach es X.env := by rfl) (hpl : (backTo pos (starEach es X.env)).any (·.1) = false := by rfl) : RD X G B (.Call (.Name "tuple" p) (e :: es) [] pos) (oCB fTuple oas) :=
  rd_callTy call_tuple_of callS_tuple hg hm boot_tuple ha (by decide) (by decide) he hpl
theorem zb_int (hg : Gl X "int") (hm : X.mg "int" = none) (ha : AD X G B (e :: es) oas) (he : starEach (e :: es) X.env = (false, eval e X.env) :: starEach es X.env := by rfl) (hpl : (backTo pos (starEach es X.env)).any (·.1) = false := by rfl) : RD X G B (.Call (.Name "int" p) (e :: es) [] pos) (oCB fIntX oas) :=
  rd_callTy (CallR.or call_int_str call_int1) (callS_intX callS_int) hg hm boot_int ha (by decide) (by decide) he hpl
theorem zb_str (hg : Gl X "str") (hm : X.mg "str" = none) (ha : AD X G B (e :: es) oas) (he : starEach (e :: es) X.env = (false, eval e X.env) :: starEach es X.env := by rfl) (hpl : (backTo pos (starEach es X.env)).any (·.1) = false := by rfl) : RD X G B (.Call (.Name "str" p) (e :: es) [] pos) (oCB fStr1 oas) :=
  rd_callTy call_str_int callS_str hg hm boot_str ha (by decide) (by decide) he hpl
theorem zb_abs (hg : Gl X "abs") (hm : X.mg "abs" = none) (ha : AD X G B (e :: es) oas) (he : starEach (e :: es) X.env = (false, eval e X.env) :: starEach es X.env := by rfl) (hpl : (backTo pos (starEach es X.env)).any (·.1) = false := by rfl) : RD X G B (.Call (.Name "abs" p) (e :: es) [] pos) (oCB fAbs oas) :=
  rd_callB call_abs callS_abs hg hm boot_abs ha (by decide) (by decide) he hpl
theorem zb_max2 (hc : X.calm = true) (hg : Gl X "max") (hm : X.mg "max" = none) (ha : AD X G B (e :: es) oas) (he : starEach (e :: es) X.env = (false, eval e X.env) :: starEach es X.env := by rfl) (hpl : (backTo pos (starEach es X.env)).any (·.1) = false := by rfl) : RD X G B (.Call (.Name "max" p) (e :: es) [] pos) (oCB fMax2 oas) :=
  rd_callB (call_max2 hc) callS_max2 hg hm boot_max ha (by decide) (by decide) he hpl
theorem zb_min2 (hc : X.calm = true) (hg : Gl X "min") (hm : X.mg "min" = none) (ha : AD X G B (e :: es) oas) (he : starEach (e :: es) X.env = (false, eval e X.env) :: starEach es X.env := by rfl) (hpl : (backTo pos (starEach es X.env)).any (·.1) = false := by rfl) : RD X G B (.Call (.Name "min" p) (e :: es) [] pos) (oCB fMin2 oas) :=
  rd_callB (call_min2 hc) callS_min2 hg hm boot_min ha (by decide) (by decide) he hpl
theorem zb_max1 (hc : X.calm = true) (hg : Gl X "max") (hm : X.mg "max" = none) (ha : AD X G B (e :: es) oas) (he : starEach (e :: es) X.env = (false, eval e X.env) :: starEach es X.env := by rfl) (hpl : (backTo pos (starEach es X.env)).any (·.1) = false := by rfl) : RD X G B (.Call (.Name "max" p) (e :: es) [] pos) (oCB fMax1 oas) :=
  rd_callB (cr_max hc) callS_max1 hg hm boot_max ha (by decide) (by decide) he hpl
theorem zb_min1 (hc : X.calm = true) (hg : Gl X "min") (hm : X.mg "min" = none) (ha : AD X G B (e :: es) oas) (he : starEach (e :: es) X.env = (false, eval e X.env) :: starEach es X.env := by rfl) (hpl : (backTo pos (starEach es X.env)).any (·.1) = false := by rfl) : RD X G B (.Call (.Name "min" p) (e :: es) [] pos) (oCB fMin1 oas) :=
  rd_callB (cr_min hc) callS_min1 hg hm boot_min ha (by decide) (by decide) he hpl
theorem zb_sum (hc : X.calm = true) (hg : Gl X "sum") (hm : X.mg "sum" = none) (ha : AD X G B (e :: es) oas) (he : starEach (e :: es) X.env = (false, eval e X.env) :: starEach es X.env := by rfl) (hpl : (backTo pos (starEach es X.env)).any (·.1) = false := by rfl) : RD X G B (.Call (.Name "sum" p) (e :: es) [] pos) (oCB fSum oas) :=
  rd_callB (cr_sum hc) callS_sum hg hm boot_sum ha (by decide) (by decide) he hpl
theorem zb_all (hc : X.calm = true) (hg : Gl X "all") (hm : X.mg "all" = none) (ha : AD X G B (e :: es) oas) (he : starEach (e :: es) X.env = (false, eval e X.env) :: starEach es X.env := by rfl) (hpl : (backTo pos (starEach es X.env)).any (·.1) = false := by rfl) : RD X G B (.Call (.Name "all" p) (e :: es) [] pos) (oCB fAll oas) :=
  rd_callB (cr_all hc) callS_all hg hm boot_all ha (by decide) (by decide) he hpl
theorem zb_any (hc : X.calm = true) (hg : Gl X "any") (hm : X.mg "any" = none) (ha : AD X G B (e :: es) oas) (he : starEach (e :: es) X.env = (false, eval e X.env) :: starEach es X.env := by rfl) (hpl : (backTo pos (starEach es X.env)).any (·.1) = false := by rfl) : RD X G B (.Call (.Name "any" p) (e :: es) [] pos) (oCB fAny oas) :=
  rd_callB (cr_any hc) callS_any hg hm boot_any ha (by decide) (by decide) he hpl
theorem zb_sorted (hg : Gl X "sorted") (hm : X.mg "sorted" = none) (ha : AD X G B (e :: es) oas) (he : starEach (e :: es) X.env = (false, eval e X.env) :: starEach es X.env := by rfl) (hpl : (backTo pos (starEach es X.env)).any (·.1) = false := by rfl) : RD X G B (.Call (.Name "sorted" p) (e :: es) [] pos) (oCB fSorted oas) :=
  rd_callB cr_sortedI callS_sorted hg hm boot_sorted ha (by decide) (by decide) he hpl
theorem zm_join (ho : ED X G B o oo) (ha : AD X G B (e :: es) oas)
    (hbase : attributeBase o "join" X.env (eval o X.env) = eval o X.env := by rfl)
    (hfew : ((backTo cpos (starEach (e :: es) X.env)).all (fun x => !x.1) && (backToKw cpos (keywordEach [] X.env)).all (fun x => x.1.isSome)
      && decide ((e :: es).length + ([] : List Keyword).length + (if ([] : List Keyword).isEmpty then 0 else 1) < 30)) = true := by rfl)
    (hline : (apos.endLine == cpos.line) = true := by rfl) (hs : starEach (e :: es) X.env = (false, eval e X.env) :: starEach es X.env := by rfl) (hplain : (backTo cpos (starEach es X.env)).any (·.1) = false := by rfl) :
    RD X G B (.Call (.Attribute o "join" apos) (e :: es) [] cpos) (oBM "str" fJoin oo oas) :=
  rd_bm F.plainAttrs_str F.slot_str_join F.type_str_join mt_join metS_join ho ha hbase hfew hline hs hplain
theorem zm_split (ho : ED X G B o oo) (ha : AD X G B (e :: es) oas)
    (hbase : attributeBase o "split" X.env (eval o X.env) = eval o X.env := by rfl)
    (hfew : ((backTo cpos (starEach (e :: es) X.env)).all (fun x => !x.1) && (backToKw cpos (keywordEach [] X.env)).all (fun x => x.1.isSome)
      && decide ((e :: es).length + ([] : List Keyword).length + (if ([] : List Keyword).isEmpty then 0 else 1) < 30)) = true := by rfl)
    (hline : (apos.endLine == cpos.line) = true := by rfl) (hs : starEach (e :: es) X.env = (false, eval e X.env) :: starEach es X.env := by rfl) (hplain : (backTo cpos (starEach es X.env)).any (·.1) = false := by rfl) :
    RD X G B (.Call (.Attribute o "split" apos) (e :: es) [] cpos) (oBM "str" fSplit oo oas) :=
  rd_bm F.plainAttrs_str F.slot_str_split F.type_str_split mt_split metS_split ho ha hbase hfew hline hs hplain
theorem zl_append (i : Nat) {oas : O (List D)} (ha : QD X G B (e :: es) oas)
    (hN : X.N[i]? = some x := by rfl) (hv : Vis X.env.scope x := by first | exact Or.inl rfl | exact Or.inr (Or.inl rfl) | exact Or.inr (Or.inr rfl)) (hd : (x == ("__debug__" : Str)) = false := by decide)
    (hcd : (x == ("__classdict__" : Str)) = false := by decide)
    (hbase : attributeBase (.Name x npos) "append" X.env (eval (.Name x npos) X.env) = eval (.Name x npos) X.env := by rfl)
    (hfew : ((backTo cpos (starEach (e :: es) X.env)).all (fun x => !x.1) && (backToKw cpos (keywordEach [] X.env)).all (fun x => x.1.isSome)
      && decide ((e :: es).length + ([] : List Keyword).length + (if ([] : List Keyword).isEmpty then 0 else 1) < 30)) = true := by rfl)
    (hline : (apos.endLine == cpos.line) = true := by rfl) (hs : starEach (e :: es) X.env = (false, eval e X.env) :: starEach es X.env := by rfl) (hplain : (backTo cpos (starEach es X.env)).any (·.1) = false := by rfl) :
    PD X G B (.Call (.Attribute (.Name x npos) "append" apos) (e :: es) [] cpos) (oMutK i fAppend oas) :=
  pd_mutK i F.slot_list_append F.type_list_append mt_append mutK_append ha hN hv hd hcd hbase hfew hline hs hplain
theorem zl_insert (i : Nat) {oas : O (List D)} (ha : QD X G B (e :: es) oas)
    (hN : X.N[i]? = some x := by rfl) (hv : Vis X.env.scope x := by first | exact Or.inl rfl | exact Or.inr (Or.inl rfl) | exact Or.inr (Or.inr rfl)) (hd : (x == ("__debug__" : Str)) = false := by decide)
    (hcd : (x == ("__classdict__" : Str)) = false := by decide)
    (hbase : attributeBase (.Name x npos) "insert" X.env (eval (.Name x npos) X.env) = eval (.Name x npos) X.env := by rfl)
    (hfew : ((backTo cpos (starEach (e :: es) X.env)).all (fun x => !x.1) && (backToKw cpos (keywordEach [] X.env)).all (fun x => x.1.isSome)
      && decide ((e :: es).length + ([] : List Keyword).length + (if ([] : List Keyword).isEmpty then 0 else 1) < 30)) = true := by rfl)
    (hline : (apos.endLine == cpos.line) = true := by rfl) (hs : starEach (e :: es) X.env = (false, eval e X.env) :: starEach es X.env := by rfl) (hplain : (backTo cpos (starEach es X.env)).any (·.1) = false := by rfl) :
    PD X G B (.Call (.Attribute (.Name x npos) "insert" apos) (e :: es) [] cpos) (oMutK i fInsert oas) :=
  pd_mutK i F.slot_list_insert F.type_list_insert mt_insert mutK_insert ha hN hv hd hcd hbase hfew hline hs hplain
theorem zl_extend (i : Nat) (ha : AD X G B (e :: es) oas)
    (hN : X.N[i]? = some x := by rfl) (hv : Vis X.env.scope x := by first | exact Or.inl rfl | exact Or.inr (Or.inl rfl) | exact Or.inr (Or.inr rfl)) (hd : (x == ("__debug__" : Str)) = false := by decide)
    (hcd : (x == ("__classdict__" : Str)) = false := by decide)
    (hbase : attributeBase (.Name x npos) "extend" X.env (eval (.Name x npos) X.env) = eval (.Name x npos) X.env := by rfl)
    (hfew : ((backTo cpos (starEach (e :: es) X.env)).all (fun x => !x.1) && (backToKw cpos (keywordEach [] X.env)).all (fun x => x.1.isSome)
      && decide ((e :: es).length + ([] : List Keyword).length + (if ([] : List Keyword).isEmpty then 0 else 1) < 30)) = true := by rfl)
    (hline : (apos.endLine == cpos.line) = true := by rfl) (hs : starEach (e :: es) X.env = (false, eval e X.env) :: starEach es X.env := by rfl) (hplain : (backTo cpos (starEach es X.env)).any (·.1) = false := by rfl) :
    PD X G B (.Call (.Attribute (.Name x npos) "extend" apos) (e :: es) [] cpos) (oMut i fExtend oas) :=
  pd_mut i F.slot_list_extend F.type_list_extend mt_extend mutS_extend ha hN hv hd hcd hbase hfew hline hs hplain
theorem zl_popAt (i : Nat) (ha : AD X G B (e :: es) oas)
    (hN : X.N[i]? = some x := by rfl) (hv : Vis X.env.scope x := by first | exact Or.inl rfl | exact Or.inr (Or.inl rfl) | exact Or.inr (Or.inr rfl)) (hd : (x == ("__debug__" : Str)) = false := by decide)
    (hcd : (x == ("__classdict__" : Str)) = false := by decide)
    (hbase : attributeBase (.Name x npos) "pop" X.env (eval (.Name x npos) X.env) = eval (.Name x npos) X.env := by rfl)
    (hfew : ((backTo cpos (starEach (e :: es) X.env)).all (fun x => !x.1) && (backToKw cpos (keywordEach [] X.env)).all (fun x => x.1.isSome)
      && decide ((e :: es).length + ([] : List Keyword).length + (if ([] : List Keyword).isEmpty then 0 else 1) < 30)) = true := by rfl)
    (hline : (apos.endLine == cpos.line) = true := by rfl) (hs : starEach (e :: es) X.env = (false, eval e X.env) :: starEach es X.env := by rfl) (hplain : (backTo cpos (starEach es X.env)).any (·.1) = false := by rfl) :
    PD X G B (.Call (.Attribute (.Name x npos) "pop" apos) (e :: es) [] cpos) (oMut i fPopAt oas) :=
  pd_mut i F.slot_list_pop F.type_list_pop mt_popAt mutS_popAt ha hN hv hd hcd hbase hfew hline hs hplain
theorem zl_pop (i : Nat)
    (hN : X.N[i]? = some x := by rfl) (hv : Vis X.env.scope x := by first | exact Or.inl rfl | exact Or.inr (Or.inl rfl) | exact Or.inr (Or.inr rfl)) (hd : (x == ("__debug__" : Str)) = false := by decide)
    (hcd : (x == ("__classdict__" : Str)) = false := by decide)
    (hbase : attributeBase (.Name x npos) "pop" X.env (eval (.Name x npos) X.env) = eval (.Name x npos) X.env := by rfl) (hline : (apos.endLine == cpos.line) = true := by rfl) :
    PD X G B (.Call (.Attribute (.Name x npos) "pop" apos) [] [] cpos) (oMut i fPop oNil) :=
  pd_mut0 i F.slot_list_pop F.type_list_pop mt_pop mutS_pop hN hv hd hcd hbase hline
end
/-! ### defs by their names -/
structure Cal (P : Program) (w : World) (K : PySem.W.Frag) (mg : Str → Option Value) (base : Heap) (k : Nat) (x : Str) (ps : List Str) (g : Fn) : Prop where
  ex : ∃ f fd, FnOk P w K mg base CX0 k f fd ps (spD K ps.length g) ∧ mg x = some (.ref f) ∧ PySem.W.keepIn K (.ref f) = true ∧ Binds K fd ps []
section
variable {X : Cx} {G : Gm} {B : Wish} {k kk : Nat} {ps : List Str} {g : Fn} {x : Str} {p pos : Pos} {e : Expr} {es : List Expr} {oas : O (List Va)}
theorem rd_cal (c : Cal X.prog X.w X.K X.mg X.base k x ps g) (hr : Room kk X.A) (hk : k ≤ kk) (hg : Gl X x) (ha : AD X G noB (e :: es) oas) (hl : Many ps.length oas) (hdb : (x == ("__debug__" : Str)) = false := by decide)
    (he : starEach (e :: es) X.env = (false, eval e X.env) :: starEach es X.env := by rfl) (hpl : (backTo pos (starEach es X.env)).any (·.1) = false := by rfl) : RD X G noB (.Call (.Name x p) (e :: es) [] pos) (oCall g oas) := by
  obtain ⟨f, fd, F, hm, kp, b⟩ := c.ex
  exact rd_call F (hr.mono hk) hg hm kp b ha hl hdb he hpl
theorem rd_cal0 (c : Cal X.prog X.w X.K X.mg X.base k x [] g) (hr : Room kk X.A) (hk : k ≤ kk) (hg : Gl X x) (hdb : (x == ("__debug__" : Str)) = false := by decide) : RD X G noB (.Call (.Name x p) [] [] pos) (oCall g oNil) := by
  obtain ⟨f, fd, F, hm, kp, b⟩ := c.ex
  exact rd_call0 F (hr.mono hk) hg hm kp b hdb
end
end Ow
namespace Ow
open PySem PySem.Spec PyProof.Rows L2
/-! ### the module's constants, read in the written part -/
mutual
def konB (K : PySem.W.Frag) : Nat → D → Value → Bool
  | _, .none, .none => true
  | _, .bool b, .bool c => b == c
  | _, .int i, .int j _ => decide (i = j)
  | _, .str x, .str y _ => decide (x = y)
  | n + 1, .dict [(.bool true, .tuple ds)], .ref a => match K.lookup a with
    | some ⟨.type c, _, .seq its _, _⟩ => decide (c = "tuple") && (decide (its.size ≤ sizeLine) && konL K n ds its.toList)
    | _ => false
  | _, _, _ => false
def konL (K : PySem.W.Frag) : Nat → List D → List Value → Bool
  | _, [], [] => true
  | n + 1, d :: ds, u :: us => konB K n d u && konL K n ds us
  | _, _, _ => false
end
theorem rpAll_of {K : PySem.W.Frag} {vs : List V} {ds : List D} (h : Paired (fun v d => ∀ Z, Rp K Z v d) vs ds) (Z : Hp) : RpAll K Z vs ds := by
  induction h with
  | nil => exact .nil
  | cons h1 h2 ih => exact .cons (h1 Z) ih
theorem kon_ok {K : PySem.W.Frag} : ∀ n : Nat, (∀ (d : D) (u : Value), konB K n d u = true → ∃ v, RelV v u ∧ ∀ Z, Rp K Z v d) ∧ (∀ (ds : List D) (us : List Value), konL K n ds us = true → ∃ vs, Vals vs us ∧ Paired (fun v d => ∀ Z, Rp K Z v d) vs ds) := by
  intro n
  induction n with
  | zero =>
    refine ⟨fun d u h => ?_, fun ds us h => ?_⟩
    · unfold konB at h
      split at h
      · exact ⟨.non, rfl, fun Z => .non⟩
      · rw [eq_of_beq h]; exact ⟨.bl _, rfl, fun Z => .bl _⟩
      · rw [of_decide_eq_true h]; exact ⟨.int _, ⟨_, rfl⟩, fun Z => .int _⟩
      · rw [of_decide_eq_true h]; exact ⟨.str _, ⟨_, rfl⟩, fun Z => .str _⟩
      · exact absurd ‹0 = Nat.succ _› (Nat.succ_ne_zero _).symm
      · cases h
    · unfold konL at h
      split at h
      · exact ⟨[], .nil, .nil⟩
      · exact absurd ‹0 = Nat.succ _› (Nat.succ_ne_zero _).symm
      · cases h
  | succ n ih =>
    refine ⟨fun d u h => ?_, fun ds us h => ?_⟩
    · unfold konB at h
      split at h
      · exact ⟨.non, rfl, fun Z => .non⟩
      · rw [eq_of_beq h]; exact ⟨.bl _, rfl, fun Z => .bl _⟩
      · rw [of_decide_eq_true h]; exact ⟨.int _, ⟨_, rfl⟩, fun Z => .int _⟩
      · rw [of_decide_eq_true h]; exact ⟨.str _, ⟨_, rfl⟩, fun Z => .str _⟩
      · rename_i m ds a hn
        cases hn
        split at h
        · rename_i c _ its z _ q
          obtain ⟨h1, h2⟩ := He.ba h
          obtain ⟨h3, h4⟩ := He.ba h2
          obtain ⟨vs, hv, hd⟩ := ih.2 _ _ h4
          exact ⟨.ref a, rfl, fun Z => .kon (.inr ⟨_, its, z, q, congrArg Value.type (of_decide_eq_true h1), rfl, of_decide_eq_true h3, hv⟩) (rpAll_of hd Z)⟩
        · cases h
      · cases h
    · unfold konL at h
      split at h
      · exact ⟨[], .nil, .nil⟩
      · rename_i m d ds u us hn
        cases hn
        obtain ⟨h1, h2⟩ := He.ba h
        obtain ⟨v, rv, rd⟩ := ih.1 _ _ h1
        obtain ⟨vs, rvs, rds⟩ := ih.2 _ _ h2
        exact ⟨v :: vs, .cons rv rvs, .cons rd rds⟩
      · cases h
def konG (K : PySem.W.Frag) (x : Str) (d : D) : Bool := match PySem.W.nsIn K mainGlobals x with
  | some (some u) => konB K 1000 d u
  | _ => false
theorem konG_ok {K : PySem.W.Frag} {h : Heap} {mg : Str → Option Value} (X : K.In h) (G : h.Ns mainGlobals mg) {x : Str} {d : D} (c : konG K x d = true) : Kn K mg x d := by
  unfold konG at c
  split at c
  · rename_i u e
    obtain ⟨v, r, z⟩ := (kon_ok 1000).1 _ _ c
    exact ⟨v, u, PySem.W.mg_of X G e, r, z⟩
  · cases c
/-! ### the head's hook, and more facts -/
open He
def obsQ (fa : List Fa) (fn : List DefD) (ex : PySem.W.Frag → Bool) (K : PySem.W.Frag) : AlD := (((fa.all fun f => f.ok K) && fn.all fun d => d.ok K) && ex K, fn.map fun d => fnW K d.at_)
def obsQG (n : Nat) (fa : List Fa) (fn : List DefD) (ex : PySem.W.Frag → Bool) (g : Addr → Option Obj) : AlD := obsQ fa fn ex (frG g (asD g n))
def hookQ (n : Nat) (fa : List Fa) (fn : List DefD) (ex : PySem.W.Frag → Bool) : PySem.W.Hook where
  α := AlD
  obs := fun s => obsQG n fa fn ex s.heap.get?
  val := fun _ => He.valD fn
  says := fun _ h => ∃ K : PySem.W.Frag, K.In h ∧ SaysD fa fn K ∧ ex K = true
  of := fun _ _ e => ⟨_, frG_in, by
    have e1 : (((fa.all fun f => f.ok _) && fn.all fun d => d.ok _) && ex _) = true := congrArg (fun z : AlD => z.1) e
    have e2 := congrArg (fun z : AlD => z.2) e
    obtain ⟨e3, e4⟩ := ba e1
    exact ⟨Prod.ext e3 e2, e4⟩⟩
  keeps := fun _ _ _ ⟨K, hK, c⟩ k => ⟨K, PySem.W.Frag.In.keeps hK k, c⟩
theorem obsQG_eq {n : Nat} {fa : List Fa} {fn : List DefD} {ex : PySem.W.Frag → Bool} {g : Addr → Option Obj} {s : Shared} (h : ∀ a, g a = s.heap.get? a) : obsQG n fa fn ex g = (hookQ n fa fn ex).obs s := by
  have e : g = s.heap.get? := funext h
  rw [e] <;> rfl
/-! ### the end -/
section
variable {P : Program} {w : World} {K : PySem.W.Frag} {mg : Str → Option Value} {base : Heap} {k : Nat} {x qual : Str} {params : Arguments} {body : List Stmt} {scope : Scope} {f : Addr} {fd : FuncData} {ps : List Str} {g : Fn}
theorem Cal.of (ok : FnOk P w K mg base CX0 k f fd ps (spD K ps.length g)) (hm : mg x = some (.ref f)) (F : FunD K x qual params body scope [] [] f fd)
    (h : ∀ (kV doc pm : Value) (an : Option Addr) (cdv ct : Value) (us : List Value), us.length = ps.length → bindArgs (PySem.W.fnOf x qual params body scope .none kV doc pm an cdv ct) ⟨us, []⟩ = pure (ps.zip us)) : Cal P w K mg base k x ps g :=
  ⟨f, fd, ok, hm, F.kp, F.bindsN h⟩
theorem sp_law {outs : List Sl} {H : Hp} {a : Addr} {ns : List Int} (hg : ∃ outs, g [.pu (scr (ns.map PyData.int))] = .ret (.pu (.bool true)) outs) (hS : SqL K H a (ns.map V.int)) : spD K 1 g [.ref a] H (fun v _ => v = .bl true) (fun _ _ _ => False) := by
  obtain ⟨outs, hg⟩ := hg
  refine ⟨rfl, H, [.pu (scr (ns.map PyData.int))], .refl _, ⟨rfl, fun i e => ?_, fun i xss e => ?_, fun i k j e => ?_, fun i d e => ?_, fun i p c e => ?_, fun i j p q c d n e1 e2 => ?_⟩, ?_⟩
  · cases i with
    | zero => cases e
    | succ i => cases e
  · cases i with
    | zero => cases e
    | succ i => cases e
  · cases i with
    | zero => cases e
    | succ i => cases e
  · cases i with
    | zero => cases e; exact ⟨_, rfl, .frz hS (RpAll.ints ns)⟩
    | succ i => cases e
  · cases i with
    | zero => cases e
    | succ i => cases e
  · cases i with
    | zero => cases e1
    | succ i => cases e1
  · rw [hg]
    intro v Z' H' _ hr
    cases (show Rp K Z' v (.bool true) from hr)
    rfl
end
end Ow
namespace Ow
open PySem L2
/-! ### running the plain programs: rules for simp -/
section
variable (z : Sl) (ρ : Rho)
@[simp] theorem ap_pu (o : O D) : oPu o (z :: ρ) = (o (z :: ρ)).bind fun d ρ1 => .ok (.pu d) ρ1 := rfl
@[simp] theorem ap_res (o : O D) : oRes o (z :: ρ) = (o (z :: ρ)).bind fun d ρ1 => .ok (.pu d) ρ1 := rfl
@[simp] theorem ap_frz (o : O Rs) : oFrz o (z :: ρ) = (o (z :: ρ)).bind frz1 := rfl
@[simp] theorem ap_keep (o : O Va) : oKeep o (z :: ρ) = (o (z :: ρ)).bind keep1 := rfl
@[simp] theorem ap_c (d : D) : oC d (z :: ρ) = .ok d (z :: ρ) := rfl
theorem ap_var (i : Nat) : oVar i (z :: ρ) = match (z :: ρ)[i]? with | some (.pu d) => .ok (.pu d) (z :: ρ) | some (.ow _ _) => .ok (.rf i) (z :: ρ) | some (.al k _) => (match (z :: ρ)[k]? with | some (.ll (.li _)) => .ok (.rf i) (z :: ρ) | _ => .st) | _ => .st := rfl
@[simp] theorem ap_bin (f : D → D → Option Rs) (a b : O Va) : oBin f a b (z :: ρ) = (a (z :: ρ)).bind fun x ρ1 => (b ρ1).bind fun y ρ2 => bin1 f x y ρ2 := rfl
@[simp] theorem ap_un (f : D → Option Rs) (a : O Va) : oUn f a (z :: ρ) = (a (z :: ρ)).bind (un1 f) := rfl
@[simp] theorem ap_tst (o : O Rs) : oTst o (z :: ρ) = (o (z :: ρ)).bind tst1 := rfl
@[simp] theorem ap_tru (o : O Va) : oTru o (z :: ρ) = (o (z :: ρ)).bind tru1 := rfl
@[simp] theorem ap_and (a b : O Bool) : oAnd a b (z :: ρ) = (a (z :: ρ)).bind fun c ρ1 => if c = true then b ρ1 else .ok false ρ1 := rfl
@[simp] theorem ap_or (a b : O Bool) : oOr a b (z :: ρ) = (a (z :: ρ)).bind fun c ρ1 => if c = true then .ok true ρ1 else b ρ1 := rfl
@[simp] theorem ap_not (a : O Bool) : oNot a (z :: ρ) = (a (z :: ρ)).bind fun c ρ1 => .ok (!c) ρ1 := rfl
@[simp] theorem ap_bl (a : O Bool) : oBl a (z :: ρ) = (a (z :: ρ)).bind fun c ρ1 => .ok (.bool c) ρ1 := rfl
@[simp] theorem ap_if {α : Type} (c : O Bool) (a b : O α) : oIf c a b (z :: ρ) = (c (z :: ρ)).bind fun t ρ1 => if t = true then a ρ1 else b ρ1 := rfl
@[simp] theorem ap_andV (a b : O D) : oAndV a b (z :: ρ) = (a (z :: ρ)).bind fun d ρ1 => bl1 d fun c => if c = true then b ρ1 else .ok (.bool false) ρ1 := rfl
@[simp] theorem ap_orV (a b : O D) : oOrV a b (z :: ρ) = (a (z :: ρ)).bind fun d ρ1 => bl1 d fun c => if c = true then .ok (.bool true) ρ1 else b ρ1 := rfl
@[simp] theorem ap_notV (a : O D) : oNotV a (z :: ρ) = (a (z :: ρ)).bind fun d ρ1 => bl1 d fun c => .ok (.bool (!c)) ρ1 := rfl
@[simp] theorem ap_chain (f g : D → D → Option Rs) (oa ob oc : O Va) : oChain f g oa ob oc (z :: ρ) = (oa (z :: ρ)).bind fun a ρ1 => (ob ρ1).bind fun b ρ2 => (bin1 f a b ρ2).bind fun r ρ3 => (tst1 r ρ3).bind fun k ρ4 => if k = true then (oc ρ4).bind fun c ρ5 => bin1 g b c ρ5 else .ok (.pu (.bool false)) ρ4 := rfl
@[simp] theorem ap_nil {α : Type} : (oNil : O (List α)) (z :: ρ) = .ok [] (z :: ρ) := rfl
@[simp] theorem ap_cons {α : Type} (a : O α) (r : O (List α)) : oCons a r (z :: ρ) = (a (z :: ρ)).bind fun x ρ1 => (r ρ1).bind fun xs ρ2 => .ok (x :: xs) ρ2 := rfl
@[simp] theorem ap_tup (o : O (List D)) : oTup o (z :: ρ) = (o (z :: ρ)).bind fun ds ρ1 => if ds.length ≤ 16000000 then .ok (.tuple ds) ρ1 else .st := rfl
@[simp] theorem ap_lst (o : O (List D)) : oLst o (z :: ρ) = (o (z :: ρ)).bind fun ds ρ1 => if ds.length ≤ 16000000 then .ok (.nw (.li ds)) ρ1 else .st := rfl
@[simp] theorem ap_part (o : O D) : oPart o (z :: ρ) = (o (z :: ρ)).bind part1 := rfl
@[simp] theorem ap_noPart : oNoPart (z :: ρ) = .ok none (z :: ρ) := rfl
@[simp] theorem ap_sl (oa : O Va) (ol oh : O (Option Int)) : oSl oa ol oh (z :: ρ) = (oa (z :: ρ)).bind fun a ρ1 => (ol ρ1).bind fun lo ρ2 => (oh ρ2).bind fun hi ρ3 => sl1 a lo hi ρ3 := rfl
@[simp] theorem ap_cb (f : List D → Option Rs) (oas : O (List Va)) : oCB f oas (z :: ρ) = (oas (z :: ρ)).bind (cb1 f) := rfl
@[simp] theorem ap_len (o : O Va) : oLen o (z :: ρ) = (o (z :: ρ)).bind len1 := rfl
@[simp] theorem ap_isi (T : String) (o : O Va) : oIsi T o (z :: ρ) = (o (z :: ρ)).bind (isi1 T) := rfl
@[simp] theorem ap_bm (T : String) (f : D → List D → Option Rs) (oo : O Va) (oas : O (List Va)) : oBM T f oo oas (z :: ρ) = (oo (z :: ρ)).bind fun a ρ1 => ty1 T a ρ1 ((oas ρ1).bind fun as ρ2 => met1 f a as ρ2) := rfl
@[simp] theorem ap_seq (a b : Os) : oSeq a b (z :: ρ) = (a (z :: ρ)).then b := rfl
@[simp] theorem ap_next : oNext (z :: ρ) = .nx (z :: ρ) := rfl
@[simp] theorem ap_break : oBreak (z :: ρ) = .bk (z :: ρ) := rfl
@[simp] theorem ap_cont : oCont (z :: ρ) = .ct (z :: ρ) := rfl
@[simp] theorem ap_drop {α : Type} (o : O α) : oDrop o (z :: ρ) = (o (z :: ρ)).bindS fun _ ρ1 => .nx ρ1 := rfl
@[simp] theorem ap_ret (o : O Rs) : oRet o (z :: ρ) = (o (z :: ρ)).bindS fun r ρ1 => .rt r ρ1 := rfl
@[simp] theorem ap_retN : oRetN (z :: ρ) = .rt (.pu .none) (z :: ρ) := rfl
theorem ap_retV (i : Nat) : oRetV i (z :: ρ) = match (z :: ρ)[i]? with | some (.pu d) => .rt (.pu d) (z :: ρ) | some (.ow false c) => .rt (.nw c) ((z :: ρ).set i .no) | _ => .st := rfl
@[simp] theorem ap_ifS (c : O Bool) (a b : Os) : oIfS c a b (z :: ρ) = (c (z :: ρ)).bindS fun t ρ1 => if t = true then a ρ1 else b ρ1 := rfl
@[simp] theorem ap_set (i : Nat) (o : O Rs) : oSet i o (z :: ρ) = (o (z :: ρ)).bindS fun r ρ1 => nx1 (setSl ρ1 i r.sl) := rfl
@[simp] theorem ap_asg (o : O D) (g : D → Rho → Option Rho) : oAsg o g (z :: ρ) = (o (z :: ρ)).bindS fun d ρ1 => nx1 (g d ρ1) := rfl
@[simp] theorem ap_for (oi : O (List D)) (g : D → Rho → Option Rho) (b : Os) : oFor oi g b (z :: ρ) = (oi (z :: ρ)).bindS fun ds ρ1 => forL g b ds ρ1 := rfl
@[simp] theorem ap_itm (o : O Va) : oItm o (z :: ρ) = (o (z :: ρ)).bind itm1 := rfl
@[simp] theorem ap_range (o : O (List D)) : oRange o (z :: ρ) = (o (z :: ρ)).bind rg1 := rfl
@[simp] theorem ap_range2 (o : O (List D)) : oRange2 o (z :: ρ) = (o (z :: ρ)).bind rg2 := rfl
@[simp] theorem ap_range3 (o : O (List D)) : oRange3 o (z :: ρ) = (o (z :: ρ)).bind rg3 := rfl
@[simp] theorem ap_enumL (o : O D) : oEnumL o (z :: ρ) = (o (z :: ρ)).bind en1 := rfl
@[simp] theorem ap_zip (o : O (List D)) : oZip o (z :: ρ) = (o (z :: ρ)).bind zp1 := rfl
@[simp] theorem ap_lc (vs : List Nat) (oi : O (List D)) (g : D → Rho → Option Rho) (ot : O Bool) (oe : O D) : oLc vs oi g ot oe (z :: ρ) = (oi (z :: ρ)).bind (lc1 vs g ot oe) := rfl
@[simp] theorem ap_call (g : Fn) (oas : O (List Va)) : oCall g oas (z :: ρ) = (oas (z :: ρ)).bind (call1 g) := rfl
@[simp] theorem ap_newK : oNewK (z :: ρ) = .ok (.nw (.dk [])) (z :: ρ) := rfl
@[simp] theorem ap_newT : oNewT (z :: ρ) = .ok (.nw (.dt [])) (z :: ρ) := rfl
@[simp] theorem ap_ixA (oa ob : O Va) : oIxA oa ob (z :: ρ) = (oa (z :: ρ)).bind fun a ρ1 => (ob ρ1).bind fun b ρ2 => ixA1 a b ρ2 := rfl
@[simp] theorem ap_inA (neg : Bool) (oa ob : O Va) : oInA neg oa ob (z :: ρ) = (oa (z :: ρ)).bind fun a ρ1 => (ob ρ1).bind fun b ρ2 => inA1 neg a b ρ2 := rfl
@[simp] theorem ap_stA (k : Nat) (ov oi : O D) : oStA k ov oi (z :: ρ) = if isDic (z :: ρ)[k]? = true then oStD k ov oi (z :: ρ) else oStL k ov oi (z :: ρ) := rfl
@[simp] theorem ap_stD (k : Nat) (ov oi : O D) : oStD k ov oi (z :: ρ) = (ov (z :: ρ)).bindS fun d ρ1 => match ρ1[k]? with | some (.ow _ _) => (oi ρ1).bindS fun i ρ2 => stD1 k d i ρ2 | _ => .st := rfl
@[simp] theorem ap_stL (k : Nat) (ov oi : O D) : oStL k ov oi (z :: ρ) = (ov (z :: ρ)).bindS fun d ρ1 => match ρ1[k]? with
  | some (.ow _ (.li _)) => (oi ρ1).bindS fun i ρ2 => stL1 k d i ρ2
  | _ => .st := rfl
@[simp] theorem zp_var0 (d : D) : oVar 0 (.pu d :: ρ) = .ok (.pu d) (.pu d :: ρ) := rfl
theorem ap_c0 (d : D) : oC d [] = .ok d [] := rfl
end
section
variable (a b : Os) (o : O Rs) (d : O D)
@[simp] theorem ap0_seq : oSeq a b [] = (a []).then b := rfl
@[simp] theorem ap0_ret : oRet o [] = (o []).bindS fun r ρ1 => .rt r ρ1 := rfl
@[simp] theorem ap0_res : oRes d [] = (d []).bind fun d ρ1 => .ok (.pu d) ρ1 := rfl
@[simp] theorem ap0_pu : oPu d [] = (d []).bind fun d ρ1 => .ok (.pu d) ρ1 := rfl
@[simp] theorem ap0_frz : oFrz o [] = (o []).bind frz1 := rfl
@[simp] theorem ap0_c (x : D) : oC x [] = .ok x [] := rfl
end
end Ow
namespace Ow
open PySem L2
/-! ### more rules -/
theorem atI_nn {α : Type} {xs : List α} {i : Int} (h : 0 ≤ i) : L2.atI xs i = xs[i.toNat]? := by
  unfold L2.atI L2.ixN
  rw [if_pos h]
  by_cases h1 : i < xs.length
  · rw [if_pos h1]; rfl
  · rw [if_neg h1, List.getElem?_eq_none (by omega)]; rfl
@[simp] theorem atI_lit {α : Type} (xs : List α) (n : Nat) : L2.atI xs (no_index (OfNat.ofNat n) : Int) = xs[n]? := by
  have h := atI_nn (xs := xs) (i := (n : Int)) (Int.natCast_nonneg n)
  exact h
@[simp] theorem atI_0 {α : Type} (xs : List α) : L2.atI xs 0 = xs[0]? := atI_nn (Int.le_refl 0)
@[simp] theorem atI_1 {α : Type} (xs : List α) : L2.atI xs 1 = xs[1]? := atI_nn (by decide)
theorem atI_cast {α : Type} (xs : List α) (n : Nat) : L2.atI xs (n : Int) = xs[n]? := by
  rw [atI_nn (Int.natCast_nonneg n)]
  rfl
@[simp] theorem rdV_rf (ρ : Rho) (i : Nat) : rdV ρ (.rf i) = match ρ[i]? with | some (.ow _ (.li ds)) => some (.list ds) | some (.al k j) => (match ρ[k]? with | some (.ll (.li xss)) => (xss[j]?).map PyData.list | _ => none) | _ => none := rfl
theorem bin1_eq (f : D → D → Option Rs) (a b : Va) (ρ : Rho) : bin1 f a b ρ = match rdV ρ a, rdV ρ b with | some dx, some dy => (match f dx dy with | some r => .ok r ρ | none => .st) | _, _ => .st := rfl
@[simp] theorem bin1_rl (f : D → D → Option Rs) (i : Nat) (d : D) (ρ : Rho) : bin1 f (.rf i) (.pu d) ρ = match rdV ρ (.rf i) with | some dx => (match f dx d with | some r => .ok r ρ | none => .st) | none => .st := by
  rw [bin1_eq, rdV_pu]
  cases rdV ρ (.rf i) <;> rfl
@[simp] theorem bin1_lr (f : D → D → Option Rs) (i : Nat) (d : D) (ρ : Rho) : bin1 f (.pu d) (.rf i) ρ = match rdV ρ (.rf i) with | some dx => (match f d dx with | some r => .ok r ρ | none => .st) | none => .st := by
  rw [bin1_eq, rdV_pu]
  cases rdV ρ (.rf i) <;> rfl
@[simp] theorem ix_l (xs : List D) (i : Int) : fIx (.list xs) (.int i) = (L2.atI xs i).map .pu := rfl
@[simp] theorem ix_t (xs : List D) (i : Int) : fIx (.tuple xs) (.int i) = (L2.atI xs i).map .pu := rfl
@[simp] theorem f_add (i j : Int) : fAdd (.int i) (.int j) = some (.pu (.int (i + j))) := rfl
@[simp] theorem f_sub (i j : Int) : fSub (.int i) (.int j) = some (.pu (.int (i - j))) := rfl
@[simp] theorem f_mulX (i j : Int) : fMulX (.int i) (.int j) = if mulOk i j = true then some (.pu (.int (i * j))) else none := rfl
@[simp] theorem f_div (i j : Int) : fDiv (.int i) (.int j) = if divOk i j = true then some (.pu (.int (i / j))) else none := rfl
@[simp] theorem f_mod (i j : Int) : fMod (.int i) (.int j) = if 0 < j then some (.pu (.int (i % j))) else none := rfl
@[simp] theorem f_pow (i j : Int) : fPow (.int i) (.int j) = if 0 ≤ j ∧ j.natAbs ≤ 1000000 ∧ i.natAbs < 2 ^ 64 then some (.pu (.int (i ^ j.toNat))) else none := rfl
@[simp] theorem f_shl (i j : Int) : fShl (.int i) (.int j) = if 0 ≤ j ∧ j.natAbs ≤ 1000000 ∧ i.natAbs < 2 ^ 64 then some (.pu (.int (i * 2 ^ j.toNat))) else none := rfl
@[simp] theorem f_lt (i j : Int) : fLt (.int i) (.int j) = some (.pu (.bool (decide (i < j)))) := rfl
@[simp] theorem f_le (i j : Int) : fLe (.int i) (.int j) = some (.pu (.bool (decide (i ≤ j)))) := rfl
@[simp] theorem f_gt (i j : Int) : fGt (.int i) (.int j) = some (.pu (.bool (decide (j < i)))) := rfl
@[simp] theorem f_ge (i j : Int) : fGe (.int i) (.int j) = some (.pu (.bool (decide (j ≤ i)))) := rfl
@[simp] theorem f_neg (i : Int) : fNeg (.int i) = some (.pu (.int (-i))) := rfl
@[simp] theorem f_int2 (g : Int → Int → Int) (i j : Int) : fInt2 g (.int i) (.int j) = some (.pu (.int (g i j))) := rfl
@[simp] theorem f_intX (i : Int) : fIntX [.int i] = some (.pu (.int i)) := rfl
@[simp] theorem f_intXb (b : Bool) : fIntX [.bool b] = some (.pu (.int (if b then 1 else 0))) := by cases b <;> rfl
@[simp] theorem f_abs (i : Int) : fAbs [.int i] = some (.pu (.int (if i < 0 then -i else i))) := rfl
@[simp] theorem f_lenL (xs : List D) : fLen (.list xs) = some xs.length := rfl
@[simp] theorem f_lenT (xs : List D) : fLen (.tuple xs) = some xs.length := rfl
@[simp] theorem f_listL (xs : List D) : fList [.list xs] = some (.nw (.li xs)) := rfl
@[simp] theorem f_listT (xs : List D) : fList [.tuple xs] = some (.nw (.li xs)) := rfl
@[simp] theorem f_tupleL (xs : List D) : fTuple [.list xs] = some (.pu (.tuple xs)) := rfl
@[simp] theorem f_tupleT (xs : List D) : fTuple [.tuple xs] = some (.pu (.tuple xs)) := rfl
@[simp] theorem cb1_eq (f : List D → Option Rs) (as : List Va) (ρ : Rho) : cb1 f as ρ = match rdVs ρ as with | some ds => (match f ds with | some r => .ok r ρ | none => .st) | none => .st := rfl
theorem setSl_eq (ρ : Rho) (i : Nat) (s : Sl) : setSl ρ i s = match ρ[i]? with | some (.ow true _) => none | some _ => some (ρ.set i s) | none => none := rfl
theorem fnOf_eq (n : Nat) (b : Os) (as : List Sl) : fnOf n b as = match b (as ++ List.replicate (n - as.length) Sl.no) with
  | .nx ρ => .ret (.pu .none) (ρ.take as.length)
  | .rt r ρ => .ret r (ρ.take as.length)
  | _ => .st := rfl
@[simp] theorem aug_eq (i : Nat) (f : D → D → Option Rs) (o : O Va) (z : Sl) (ρ : Rho) : oAug i f o (z :: ρ) = match (z :: ρ)[i]? with | some (.pu x) => (o (z :: ρ)).bindS (aug1 i f x) | _ => .st := rfl
@[simp] theorem aug1_eq (i : Nat) (f : D → D → Option Rs) (x : D) (b : Va) (ρ : Rho) : aug1 i f x b ρ = match rdV ρ b with
  | some dy => (match f x dy with
    | some (.pu d) => nx1 (setSl ρ i (.pu d))
    | _ => .st)
  | none => .st := rfl
@[simp] theorem auL_eq (k : Nat) (f : D → D → Option Rs) (oi oe : O D) (z : Sl) (ρ : Rho) : oAuL k f oi oe (z :: ρ) = match (z :: ρ)[k]? with | some (.ow _ (.li _)) => (oi (z :: ρ)).bindS (auL2 k f oe) | _ => .st := rfl
@[simp] theorem auL2_eq (k : Nat) (f : D → D → Option Rs) (oe : O D) (j : Int) (ρ : Rho) : auL2 k f oe (.int j) ρ = match ρ[k]? with
  | some (.ow _ (.li ds)) => if 0 ≤ j then (match ds[j.toNat]? with
    | some x => (oe ρ).bindS fun d ρ1 => auL1 k f j.toNat x d ρ1
    | none => .st)
    else .st
  | _ => .st := by
  unfold auL2
  cases ρ[k]? with
  | none => rfl
  | some s =>
    cases s with
    | ow p c => cases c <;> rfl
    | _ => rfl
@[simp] theorem auL1_eq (k : Nat) (f : D → D → Option Rs) (j : Nat) (x d : D) (ρ : Rho) : auL1 k f j x d ρ = match ρ[k]? with
  | some (.ow p (.li ds)) => (match f x d with
    | some (.pu y) => if j < ds.length then .nx (ρ.set k (.ow p (.li (ds.set j y)))) else .st
    | _ => .st)
  | _ => .st := rfl
@[simp] theorem stL1_eq (k : Nat) (d : D) (j : Int) (ρ : Rho) : stL1 k d (.int j) ρ = match ρ[k]? with
  | some (.ow p (.li ds)) => (match stL ds (.int j) d with
    | some c => .nx (ρ.set k (.ow p c))
    | none => .st)
  | _ => .st := by
  unfold stL1
  rfl
theorem divOk_of {i j : Int} (h : 0 < j) (h2 : j < 2 ^ 64) : divOk i j = true := by
  unfold divOk
  refine decide_eq_true ⟨h, ?_⟩
  have : j.natAbs < 2 ^ 64 := by omega
  have := (Nat.log2_lt (by omega : j.natAbs ≠ 0)).mpr this
  omega
theorem divOk_of2 {i j : Int} (h : 0 < j) (h2 : j.natAbs.log2 < 9000) : divOk i j = true := decide_eq_true ⟨h, h2⟩
theorem mulOk_l {i j : Int} (h1 : -(2 ^ 64) < i) (h2 : i < 2 ^ 64) : mulOk i j = true := decide_eq_true (.inl (by omega))
theorem mulOk_r {i j : Int} (h1 : -(2 ^ 64) < j) (h2 : j < 2 ^ 64) : mulOk i j = true := decide_eq_true (.inr (by omega))
section
variable (z : Sl) (ρ : Rho)
@[simp] theorem mut_eq (i : Nat) (f : Ct → List D → Option (Ct × D)) (oas : O (List Va)) : oMut i f oas (z :: ρ) = match (z :: ρ)[i]? with | some (.ow _ (.li _)) => (oas (z :: ρ)).bind (mut1 i f) | _ => .st := rfl
@[simp] theorem mutK_eq (i : Nat) (f : Ct → List D → Option (Ct × D)) (oas : O (List D)) : oMutK i f oas (z :: ρ) = match (z :: ρ)[i]? with | some (.ow _ (.li _)) => (oas (z :: ρ)).bind (mutK1 i f) | _ => .st := rfl
@[simp] theorem mut1_eq (i : Nat) (f : Ct → List D → Option (Ct × D)) (as : List Va) : mut1 i f as (z :: ρ) = match (z :: ρ)[i]?, rdVs (z :: ρ) as with
  | some (.ow p c), some ds => (match f c ds with
    | some (c', d) => .ok d ((z :: ρ).set i (.ow p c'))
    | none => .st)
  | _, _ => .st := rfl
@[simp] theorem mutK1_eq (i : Nat) (f : Ct → List D → Option (Ct × D)) (ds : List D) : mutK1 i f ds (z :: ρ) = match (z :: ρ)[i]? with
  | some (.ow p c) => (match f c ds with
    | some (c', d) => .ok d ((z :: ρ).set i (.ow p c'))
    | none => .st)
  | _ => .st := rfl
@[simp] theorem call1_eq (g : Fn) (vas : List Va) : call1 g vas (z :: ρ) = match argsOf (z :: ρ) vas with
  | some as => if (rfs vas).Nodup then (match g as with
    | .st => .st
    | .ret r outs => .ok r (wb vas outs (z :: ρ))
    | .exc x outs => .ex x (wb vas outs (z :: ρ)))
    else .st
  | none => .st := rfl
@[simp] theorem call0_eq (g : Fn) (vas : List Va) : call1 g vas [] = match argsOf [] vas with
  | some as => if (rfs vas).Nodup then (match g as with
    | .st => .st
    | .ret r outs => .ok r (wb vas outs [])
    | .exc x outs => .ex x (wb vas outs []))
    else .st
  | none => .st := rfl
@[simp] theorem argOf_rf (i : Nat) : argOf (z :: ρ) (.rf i) = match (z :: ρ)[i]? with | some (.ow _ c) => some (.ow true c) | _ => none := rfl
@[simp] theorem setCt_cons (i : Nat) (c : Ct) : setCt (z :: ρ) i c = match (z :: ρ)[i]? with | some (.ow p _) => (z :: ρ).set i (.ow p c) | _ => z :: ρ := rfl
@[simp] theorem keep1_rf (i : Nat) : keep1 (.rf i) (z :: ρ) = match (z :: ρ)[i]? with | some (.ow false (.li ds)) => .ok (.list ds) ((z :: ρ).set i (.pu (.list ds))) | _ => .st := rfl
@[simp] theorem itm1_rf (i : Nat) : itm1 (.rf i) (z :: ρ) = match (z :: ρ)[i]? with | some (.ow false (.li ds)) => .ok ds ((z :: ρ).set i (.pu (.list ds))) | _ => .st := rfl
@[simp] theorem met1_eq (f : D → List D → Option Rs) (a : Va) (as : List Va) : met1 f a as (z :: ρ) = match rdV (z :: ρ) a, rdVs (z :: ρ) as with
  | some d, some ds => (match f d ds with
    | some r => .ok r (z :: ρ)
    | none => .st)
  | _, _ => .st := rfl
@[simp] theorem met1_eq0 (f : D → List D → Option Rs) (a : Va) (as : List Va) : met1 f a as [] = match rdV [] a, rdVs [] as with
  | some d, some ds => (match f d ds with
    | some r => .ok r []
    | none => .st)
  | _, _ => .st := rfl
@[simp] theorem ty1_pu (T : String) (d : D) (m : M Rs) (ρ : Rho) : ty1 T (.pu d) ρ m = if isTy T d = true then m else .st := rfl
@[simp] theorem isTy_s (x : Str) : isTy "str" (.str x) = true := by unfold isTy; exact beq_self_eq_true _
@[simp] theorem sl1_eq (a : Va) (lo hi : Option Int) : sl1 a lo hi (z :: ρ) = match rdV (z :: ρ) a with
  | some d => (match fSl d lo hi with
    | some r => .ok r (z :: ρ)
    | none => .st)
  | none => .st := rfl
@[simp] theorem gNm_eq (i : Nat) (d : D) : gNm i d (z :: ρ) = setSl (z :: ρ) i (.pu d) := rfl
@[simp] theorem gCn_eq (g : D → Rho → Option Rho) (gs : List D → Rho → Option Rho) (d : D) (r : List D) : gCn g gs (d :: r) (z :: ρ) = (g d (z :: ρ)).bind (gs r) := rfl
@[simp] theorem gNl_eq : gNl [] ρ = some ρ := rfl
@[simp] theorem gTp_t (n : Nat) (gs : List D → Rho → Option Rho) (ds : List D) : gTp n gs (.tuple ds) ρ = if ds.length = n then gs ds ρ else none := rfl
@[simp] theorem gTp_k (n : Nat) (gs : List D → Rho → Option Rho) (ds : List D) : gTp n gs (.dict [(.bool true, .tuple ds)]) ρ = if ds.length = n then gs ds ρ else none := rfl
@[simp] theorem rg1_eq (j : Int) : rg1 [.int j] ρ = if j.natAbs < 4611686018427387904 then .ok (rangeD 0 j.toNat) ρ else .st := rfl
@[simp] theorem rg2_eq (i j : Int) : rg2 [.int i, .int j] ρ = if i.natAbs < 4611686018427387904 ∧ j.natAbs < 4611686018427387904 then .ok (rangeD i (j - i).toNat) ρ else .st := rfl
@[simp] theorem en1_eq (ds : List D) : en1 (.list ds) ρ = .ok (enumD 0 ds) ρ := rfl
@[simp] theorem zp1_l (xs ys : List D) : zp1 [.list xs, .list ys] ρ = .ok (pairsD xs ys) ρ := rfl
@[simp] theorem zp1_t (xs ys : List D) : zp1 [.tuple xs, .tuple ys] ρ = .ok (pairsD xs ys) ρ := rfl
@[simp] theorem isi1_eq (T : String) (d : D) : isi1 T (.pu d) ρ = match tyName d with
  | some n => (match L2.kitB n T with
    | some b => .ok (.pu (.bool b)) ρ
    | none => .st)
  | none => .st := rfl
end
@[simp] theorem f_app (xs : List D) (d : D) : fAppend (.li xs) [d] = if xs.length < 16000000 then some (.li (xs ++ [d]), .none) else none := rfl
@[simp] theorem f_ext (xs ys : List D) : fExtend (.li xs) [.list ys] = if xs.length + ys.length ≤ 16000000 then some (.li (xs ++ ys), .none) else none := rfl
@[simp] theorem f_popAt (xs : List D) (i : Int) : fPopAt (.li xs) [.int i] = if 0 ≤ i ∧ i.natAbs < 4611686018427387904 then (xs[i.toNat]?).map fun d => (.li (xs.eraseIdx i.toNat), d) else none := rfl
@[simp] theorem f_lenS (x : Str) : fLen (.str x) = if x.length ≤ 16000000 then some x.length else none := rfl
@[simp] theorem f_addS (i j : Str) : fAdd (.str i) (.str j) = if i.length + j.length ≤ 16000000 then some (.pu (.str (i ++ j))) else none := rfl
@[simp] theorem f_addL (xs ys : List D) : fAdd (.list xs) (.list ys) = if xs.length + ys.length ≤ 16000000 then some (.nw (.li (xs ++ ys))) else none := rfl
@[simp] theorem f_addT (xs ys : List D) : fAdd (.tuple xs) (.tuple ys) = if xs.length + ys.length ≤ 16000000 then some (.pu (.tuple (xs ++ ys))) else none := rfl
@[simp] theorem f_mulS (a : Str) (n : Int) : fMulX (.str a) (.int n) = if mulSok a n = true then some (.pu (.str (repT a n))) else none := rfl
@[simp] theorem ix_s (x : Str) (i : Int) : fIx (.str x) (.int i) = if x.length ≤ 16000000 then (L2.atI x.cps.toList i).map fun c => .pu (.str ⟨#[c]⟩) else none := rfl
@[simp] theorem f_slL (xs : List D) (lo hi : Option Int) : fSl (.list xs) lo hi = some (.nw (.li (cutD xs lo hi))) := rfl
@[simp] theorem f_slT (xs : List D) (lo hi : Option Int) : fSl (.tuple xs) lo hi = some (.pu (.tuple (cutD xs lo hi))) := rfl
@[simp] theorem f_slS (x : Str) (lo hi : Option Int) : fSl (.str x) lo hi = if x.length ≤ 16000000 then some (.pu (.str (cutS x lo hi))) else none := rfl
@[simp] theorem f_inS (neg : Bool) (x y : Str) : fIn neg (.str x) (.str y) = some (.pu (.bool (if neg then !inT x y else inT x y))) := rfl
@[simp] theorem f_join (a : Str) (ys : List Str) : fJoin (.str a) [.list (ys.map PyData.str)] = if (ys.map (·.length)).sum + ys.length * a.length ≤ 16000000 then some (.pu (.str (Txt.join a ys))) else none := by
  simp [fJoin]
@[simp] theorem f_split (a b : Str) : fSplit (.str a) [.str b] = if (b.length == 0) = false ∧ a.length + 2 ≤ 16000000 then some (.nw (.li ((Txt.split a b).map PyData.str))) else none := rfl
@[simp] theorem f_str (i : Int) : fStr1 [.int i] = if i.natAbs.log2 < 1920 then some (.pu (.str (toString i : String))) else none := rfl
@[simp] theorem f_intS (a : Str) : fIntX [.str a] = if a.length ≤ 640 then (PySem.intText? a).map fun n => .pu (.int n) else none := rfl
@[simp] theorem f_all (bs : List Bool) : fAll [.list (bs.map PyData.bool)] = some (.pu (.bool (bs.all id))) := by
  show (boolsOf (bs.map PyData.bool)).map (fun bs => Rs.pu (.bool (bs.all id))) = _
  rw [boolsOf_map]
  rfl
end Ow
namespace Ow
open PySem L2
/-! ### loops, by invariants -/
theorem lcL_filter {α : Type} {vs : List Nat} {g : D → Rho → Option Rho} {ot : O Bool} {oe : O D} {ρ : Rho} {k : α → D} {p : α → Bool} {f : α → D} : ∀ {l : List α},
    (∀ a ∈ l, ∃ ρ1 ρ2, g (k a) ρ = some ρ1 ∧ ot ρ1 = .ok (p a) ρ2 ∧ (p a = true → ∃ ρ3, oe ρ2 = .ok (f a) ρ3 ∧ wipeR ρ3 vs = ρ) ∧ (p a = false → wipeR ρ2 vs = ρ)) → lcL vs g ot oe (l.map k) ρ = .ok ((l.filter p).map f) ρ
  | [], _ => rfl
  | a :: l, h => by
    obtain ⟨ρ1, ρ2, h1, h2, h3, h4⟩ := h a (List.mem_cons_self)
    have ih := lcL_filter (l := l) fun d hd => h d (List.mem_cons_of_mem _ hd)
    rw [List.map_cons, lcL_cons, h1]
    dsimp only
    rw [h2]
    cases hp : p a with
    | true =>
      obtain ⟨ρ3, h5, h6⟩ := h3 hp
      dsimp only
      rw [h5]
      dsimp only
      rw [h6, ih, M.bind_ok, List.filter_cons_of_pos hp, List.map_cons]
    | false =>
      dsimp only
      rw [h4 hp, ih, List.filter_cons_of_neg (by rw [hp]; exact Bool.false_ne_true)]
theorem lcL_map {α : Type} {vs : List Nat} {g : D → Rho → Option Rho} {oe : O D} {ρ : Rho} {k f : α → D} {l : List α}
    (h : ∀ a ∈ l, ∃ ρ1 ρ3, g (k a) ρ = some ρ1 ∧ oe ρ1 = .ok (f a) ρ3 ∧ wipeR ρ3 vs = ρ) : lcL vs g oYes oe (l.map k) ρ = .ok (l.map f) ρ := by
  rw [lcL_filter (p := fun _ => true) (f := f)]
  · rw [List.filter_eq_self.mpr (fun _ _ => rfl)]
  · intro d hd
    obtain ⟨ρ1, ρ3, h1, h2, h3⟩ := h d hd
    exact ⟨ρ1, ρ1, h1, rfl, fun _ => ⟨ρ3, h2, h3⟩, fun q => by cases q⟩
theorem lcL_inv {vs : List Nat} {g : D → Rho → Option Rho} {oe : O D} {P : D → Prop} (I : Rho → Prop) : ∀ {ds : List D} {ρ : Rho},
    (∀ d ∈ ds, ∀ ρ, I ρ → ∃ y ρ1 ρ3, g d ρ = some ρ1 ∧ oe ρ1 = .ok y ρ3 ∧ P y ∧ I (wipeR ρ3 vs)) → I ρ → ∃ ys ρ', lcL vs g oYes oe ds ρ = .ok ys ρ' ∧ I ρ' ∧ ys.length = ds.length ∧ ∀ y ∈ ys, P y
  | [], ρ, _, hi => ⟨[], ρ, rfl, hi, rfl, fun y hy => by cases hy⟩
  | d :: ds, ρ, h, hi => by
    obtain ⟨y, ρ1, ρ3, h1, h2, h3, h4⟩ := h d List.mem_cons_self ρ hi
    obtain ⟨ys, ρ', h5, h6, h7, h8⟩ := lcL_inv I (ds := ds) (fun d hd => h d (List.mem_cons_of_mem _ hd)) h4
    refine ⟨y :: ys, ρ', ?_, h6, by rw [List.length_cons, List.length_cons, h7], fun z hz => ?_⟩
    · rw [lcL_cons, h1]
      dsimp only
      rw [oYes_eq]
      dsimp only
      rw [h2]
      dsimp only
      rw [h5, M.bind_ok]
    · rcases List.mem_cons.mp hz with rfl | hz
      · exact h3
      · exact h8 z hz
/-- a loop that runs to its end -/
theorem forL_inv {g : D → Rho → Option Rho} {b : Os} (I : List D → Rho → Prop) : ∀ {ds : List D} {ρ : Rho},
    (∀ d r ρ, d ∈ ds → I (d :: r) ρ → ∃ ρ1 ρ2, g d ρ = some ρ1 ∧ (b ρ1 = .nx ρ2 ∨ b ρ1 = .ct ρ2) ∧ I r ρ2) → I ds ρ → ∃ ρ', forL g b ds ρ = .nx ρ' ∧ I [] ρ'
  | [], ρ, _, hi => ⟨ρ, rfl, hi⟩
  | d :: ds, ρ, h, hi => by
    obtain ⟨ρ1, ρ2, h1, h2, h3⟩ := h d ds ρ List.mem_cons_self hi
    obtain ⟨ρ', h5, h6⟩ := forL_inv I (ds := ds) (fun d r ρ hd => h d r ρ (List.mem_cons_of_mem _ hd)) h3
    refine ⟨ρ', ?_, h6⟩
    rw [forL_cons, h1]
    dsimp only
    rcases h2 with h2 | h2 <;> rw [h2] <;> exact h5
theorem forL_all {g : D → Rho → Option Rho} {b : Os} (I : Rho → Prop) {ds : List D} {ρ : Rho}
    (h : ∀ d ∈ ds, ∀ ρ, I ρ → ∃ ρ1 ρ2, g d ρ = some ρ1 ∧ b ρ1 = .nx ρ2 ∧ I ρ2) (hi : I ρ) : ∃ ρ', forL g b ds ρ = .nx ρ' ∧ I ρ' :=
  forL_inv (fun _ => I) (fun d r ρ hd hi => by obtain ⟨ρ1, ρ2, h1, h2, h3⟩ := h d hd ρ hi; exact ⟨ρ1, ρ2, h1, .inl h2, h3⟩) hi
theorem whl_inv {c : O Bool} {b : Os} (I E : Rho → Prop) (m : Rho → Nat) (h : ∀ ρ, I ρ → (∃ ρ1, c ρ = .ok false ρ1 ∧ E ρ1) ∨ (∃ ρ1 ρ2, c ρ = .ok true ρ1 ∧ (b ρ1 = .nx ρ2 ∨ b ρ1 = .ct ρ2) ∧ I ρ2 ∧ m ρ2 < m ρ)) :
    ∀ (n : Nat) (ρ : Rho), I ρ → m ρ < n → ∃ ρ', whl c b n ρ = .nx ρ' ∧ E ρ'
  | 0, ρ, _, hn => absurd hn (Nat.not_lt_zero _)
  | n + 1, ρ, hi, hn => by
    rw [whl_succ]
    rcases h ρ hi with ⟨ρ1, h1, h2⟩ | ⟨ρ1, ρ2, h1, h2, h3, h4⟩
    · rw [h1]
      exact ⟨ρ1, rfl, h2⟩
    · obtain ⟨ρ', h5, h6⟩ := whl_inv I E m h n ρ2 h3 (by omega)
      refine ⟨ρ', ?_, h6⟩
      rw [h1, M.bindS_ok, if_pos rfl]
      rcases h2 with h2 | h2 <;> rw [h2] <;> exact h5
theorem while_inv {c : O Bool} {b : Os} (I E : Rho → Prop) (m : Rho → Nat) {ρ : Rho} (hi : I ρ) (h : ∀ ρ, I ρ → (∃ ρ1, c ρ = .ok false ρ1 ∧ E ρ1) ∨ (∃ ρ1 ρ2, c ρ = .ok true ρ1 ∧ (b ρ1 = .nx ρ2 ∨ b ρ1 = .ct ρ2) ∧ I ρ2 ∧ m ρ2 < m ρ)) :
    ∃ ρ', oWhile c b ρ = .nx ρ' ∧ E ρ' := by
  obtain ⟨ρ', h1, h2⟩ := whl_inv I E m h (m ρ + 1) ρ hi (Nat.lt_succ_self _)
  exact ⟨ρ', oWhile_is _ h1 (by intro q; cases q), h2⟩
/-! ### data that compares -/
theorem lc1_eq (vs : List Nat) (g : D → Rho → Option Rho) (ot : O Bool) (oe : O D) (ds : List D) (ρ1 : Rho) : lc1 vs g ot oe ds ρ1 = if okW ρ1 vs = true ∧ ds.length ≤ 16000000 then lcE vs ρ1 (lcL vs g ot oe ds (wipeR ρ1 vs)) else .st := rfl
theorem inT_one (c : Nat) (y : Str) : inT ⟨#[c]⟩ y = decide (c ∈ y.cps.toList) := rfl
/-- a slot that may be written over -/
def okS (s : Option Sl) : Bool := match s with
  | some (.ow true _) => false
  | some _ => true
  | none => false
@[simp] theorem okS_no : okS (some .no) = true := rfl
@[simp] theorem okS_pu (d : D) : okS (some (.pu d)) = true := rfl
@[simp] theorem okS_ow (c : Ct) : okS (some (.ow false c)) = true := rfl
theorem setSl_ok (ρ : Rho) (i : Nat) (s : Sl) : setSl ρ i s = if okS ρ[i]? = true then some (ρ.set i s) else none := by
  unfold setSl okS
  cases ρ[i]? with
  | none => rfl
  | some t =>
    cases t with
    | ow p c => cases p <;> rfl
    | _ => rfl
def Nw (s : Sl) : Prop := okS (some s) = true
theorem nw_pu (d : D) : Nw (.pu d) := rfl
theorem nw_no : Nw .no := rfl
/-! ### dicts -/
section
variable {κ : Type} [DecidableEq κ]
theorem valD_nil (k : κ) : valD ([] : List (κ × D)) k = none := rfl
theorem valD_cons (p : κ × D) (kvs : List (κ × D)) (k : κ) : valD (p :: kvs) k = if p.1 = k then some p.2 else valD kvs k := by
  unfold valD
  rw [List.find?_cons]
  by_cases h : p.1 = k <;> simp [h]
theorem valD_map (kvs : List (κ × D)) (k k' : κ) (v : D) : valD (kvs.map fun kv => if kv.1 = k then (kv.1, v) else kv) k' = if k' = k then (valD kvs k').map (fun _ => v) else valD kvs k' := by
  induction kvs with
  | nil => by_cases h : k' = k <;> simp [valD_nil, h]
  | cons p r ih =>
    obtain ⟨p1, p2⟩ := p
    rw [List.map_cons, valD_cons, valD_cons, ih]
    by_cases h : p1 = k
    · subst h
      rw [if_pos rfl]
      dsimp only
      by_cases h2 : p1 = k'
      · subst h2; simp
      · have : ¬ k' = p1 := fun e => h2 e.symm
        simp [h2, this]
    · rw [if_neg h]
      dsimp only
      by_cases h2 : p1 = k'
      · subst h2
        simp [h]
      · simp [h2]
theorem valD_app (kvs : List (κ × D)) (k k' : κ) (v : D) : valD (kvs ++ [(k, v)]) k' = match valD kvs k' with | some d => some d | none => if k = k' then some v else none := by
  induction kvs with
  | nil => simp [valD_cons, valD_nil]
  | cons p r ih =>
    rw [List.cons_append, valD_cons, valD_cons, ih]
    by_cases h : p.1 = k' <;> simp [h]
theorem any_val (kvs : List (κ × D)) (k : κ) : (kvs.any fun kv => decide (kv.1 = k)) = (valD kvs k).isSome := by
  induction kvs with
  | nil => rfl
  | cons p r ih =>
    rw [List.any_cons, valD_cons, ih]
    by_cases h : p.1 = k <;> simp [h]
theorem valD_put (kvs : List (κ × D)) (k k' : κ) (v : D) : valD (putD kvs k v) k' = if k' = k then some v else valD kvs k' := by
  unfold putD
  rw [any_val]
  by_cases h : (valD kvs k).isSome = true
  · rw [if_pos h, valD_map]
    by_cases h2 : k' = k
    · subst h2
      rw [if_pos rfl, if_pos rfl]
      obtain ⟨d, hd⟩ := Option.isSome_iff_exists.mp h
      rw [hd]; try rfl
    · rw [if_neg h2]; try rw [if_neg h2]
  · rw [if_neg h, valD_app]
    have hn : valD kvs k = none := by simpa using h
    by_cases h2 : k' = k
    · subst h2
      simp [hn]
    · have : ¬ k = k' := fun e => h2 e.symm
      rw [if_neg h2]
      cases valD kvs k' <;> simp [this]
theorem putD_len (kvs : List (κ × D)) (k : κ) (v : D) : (putD kvs k v).length ≤ kvs.length + 1 := by
  unfold putD
  split
  · rw [List.length_map]; omega
  · rw [List.length_append]; exact Nat.le_refl _
end
section
variable (z : Sl) (ρ : Rho)
@[simp] theorem ctOf_rf (i : Nat) : ctOf (z :: ρ) (.rf i) = match (z :: ρ)[i]? with | some (.ow _ c) => some c | _ => none := rfl
@[simp] theorem vaDic_rf (i : Nat) : vaDic (z :: ρ) (.rf i) = isDic (z :: ρ)[i]? := rfl
@[simp] theorem isDic_dk (p : Bool) (kvs : List (Key × D)) : isDic (some (.ow p (.dk kvs))) = true := rfl
@[simp] theorem isDic_dt (p : Bool) (kvs : List (List Key × D)) : isDic (some (.ow p (.dt kvs))) = true := rfl
@[simp] theorem isDic_li (p : Bool) (xs : List D) : isDic (some (.ow p (.li xs))) = false := rfl
@[simp] theorem isDic_pu (d : D) : isDic (some (.pu d)) = false := rfl
@[simp] theorem dGet_dk (kvs : List (Key × D)) (k : D) : dGet (.dk kvs) k = (keyOf k).map (valD kvs) := rfl
@[simp] theorem dGet_dt (kvs : List (List Key × D)) (k : D) : dGet (.dt kvs) k = (tkOf k).map (valD kvs) := rfl
@[simp] theorem keyOf_s (x : Str) : keyOf (.str x) = some (.inr x) := rfl
@[simp] theorem keyOf_i (i : Int) : keyOf (.int i) = some (.inl i) := rfl
@[simp] theorem dPut_dk (kvs : List (Key × D)) (k v : D) : dPut (.dk kvs) k v = if kvs.length < 16000000 then (keyOf k).map fun k => .dk (putD kvs k v) else none := rfl
@[simp] theorem dPut_dt (kvs : List (List Key × D)) (k v : D) : dPut (.dt kvs) k v = if kvs.length < 16000000 then (tkOf k).map fun k => .dt (putD kvs k v) else none := rfl
@[simp] theorem stD1_eq (k : Nat) (d i : D) : stD1 k d i (z :: ρ) = match (z :: ρ)[k]? with
  | some (.ow p c) => (match dPut c i d with
    | some c' => .nx ((z :: ρ).set k (.ow p c'))
    | none => .st)
  | _ => .st := rfl
@[simp] theorem inA1_rf (neg : Bool) (a : Va) (i : Nat) : inA1 neg a (.rf i) (z :: ρ) = if isDic (z :: ρ)[i]? = true then din1 neg a (.rf i) (z :: ρ) else bin1 (fIn neg) a (.rf i) (z :: ρ) := rfl
@[simp] theorem din1_eq (neg : Bool) (a b : Va) : din1 neg a b (z :: ρ) = match rdV (z :: ρ) a, ctOf (z :: ρ) b with
  | some k, some c => (match dGet c k with
    | some o => .ok (.pu (.bool (if neg then !o.isSome else o.isSome))) (z :: ρ)
    | none => .st)
  | _, _ => .st := rfl
@[simp] theorem ixA1_rf (b : Va) (i : Nat) : ixA1 (.rf i) b (z :: ρ) = if isDic (z :: ρ)[i]? = true then dix1 (.rf i) b (z :: ρ) else bin1 fIx (.rf i) b (z :: ρ) := rfl
@[simp] theorem dix1_eq (a b : Va) : dix1 a b (z :: ρ) = match ctOf (z :: ρ) a, rdV (z :: ρ) b with
  | some c, some k => (match dGet c k with
    | some (some d) => .ok (.pu d) (z :: ρ)
    | _ => .st)
  | _, _ => .st := rfl
@[simp] theorem f_inK (neg : Bool) (x : D) (ys : List D) : fIn neg x (.dict [(.bool true, .tuple ys)]) = if flatD x = true ∧ ys.all flatD = true then some (.pu (.bool (if neg then !inD x ys else inD x ys))) else none := by cases x <;> rfl
@[simp] theorem f_inL (neg : Bool) (x : D) (ys : List D) : fIn neg x (.list ys) = if flatD x = true ∧ ys.all flatD = true then some (.pu (.bool (if neg then !inD x ys else inD x ys))) else none := by cases x <;> rfl
@[simp] theorem f_inTu (neg : Bool) (x : D) (ys : List D) : fIn neg x (.tuple ys) = if flatD x = true ∧ ys.all flatD = true then some (.pu (.bool (if neg then !inD x ys else inD x ys))) else none := by cases x <;> rfl
end
theorem rg1_nat {n : Nat} (h : n ≤ 1000000) (ρ : Rho) : rg1 [.int (n : Int)] ρ = .ok (rangeD 0 n) ρ := by
  unfold rg1
  dsimp only
  rw [if_pos (by omega)]
  rfl
theorem rg1_int {n : Int} (h0 : 0 ≤ n) (h : n ≤ 1000000) (ρ : Rho) : rg1 [.int n] ρ = .ok (rangeD 0 n.toNat) ρ := by
  unfold rg1
  dsimp only
  rw [if_pos (by omega)]
theorem rangeD_map (n : Nat) : rangeD 0 n = (List.range n).map fun k => .int ((k : Nat) : Int) := by
  unfold rangeD
  refine List.map_congr_left fun k _ => ?_
  rw [Int.zero_add]
theorem rangeD_length (lo : Int) (n : Nat) : (rangeD lo n).length = n := by unfold rangeD; simp
end Ow
namespace Ow
open PySem PySem.W PySem.Spec PyProof.Rows L2
/-! ### max, min of a tuple of ints -/
theorem reads_ints {h : Heap} : ∀ {ns : List Int} {us : List Value}, Vals (ns.map V.int) us → ReadsAll h us (ns.map PyData.int) []
  | [], _, .nil => .nil
  | n :: ns, _, .cons r rs => by
    obtain ⟨t, rfl⟩ := r
    exact .cons (.int n t) (reads_ints rs)
theorem depth_ints : ∀ ns : List Int, PyData.depthAll (ns.map PyData.int) = 0
  | [] => rfl
  | n :: ns => by show max 0 (PyData.depthAll (ns.map PyData.int)) = 0; rw [depth_ints ns]; rfl
theorem alikeInts (ns : List Int) : AlikeAll (ns.map PyData.int) := by
  refine ⟨fun x hx y hy => ?_, fun x hx => ?_⟩
  · obtain ⟨i, _, rfl⟩ := List.mem_map.mp hx
    obtain ⟨j, _, rfl⟩ := List.mem_map.mp hy
    rfl
  · obtain ⟨i, _, rfl⟩ := List.mem_map.mp hx
    intro e
    cases e
def rMaxT (K : PySem.W.Frag) : List V → Hp → VK → Prop := fun vs H Q => ∃ (a : Addr) (n : Int) (ns : List Int), vs = [V.ref a] ∧ SqT K H a ((n :: ns).map V.int) ∧ Q (.int (ns.foldl max n)) H
def rMinT (K : PySem.W.Frag) : List V → Hp → VK → Prop := fun vs H Q => ∃ (a : Addr) (n : Int) (ns : List Int), vs = [V.ref a] ∧ SqT K H a ((n :: ns).map V.int) ∧ Q (.int (ns.foldl min n)) H
section
variable {X : Cx}
theorem cr_maxT (hc : X.calm = true) (hu : X.A.units + 64 < cLine) : CallR X (.builtin "max") (rMaxT X.K) := by
  intro pins s σ H vs us Q I r h
  obtain ⟨a, n, ns, rfl, hs, q⟩ := h
  obtain ⟨its, rv, hl, _⟩ := I.tuple hs
  rw [Vals.ref1 r]
  have rd : ReadsAll s.heap its.toArray.toList (.int n :: ns.map PyData.int) [] := reads_ints (ns := n :: ns) rv
  refine max_tuple_data (I.ok.hd hc) hl rd (alikeInts (n :: ns)) (by
    have e := depth_ints (n :: ns)
    show X.A.units + 1 + PyData.depthAll ((n :: ns).map PyData.int) < cLine
    rw [e]; omega) fun i v h' tk bs hv hr hk => ?_
  rw [maxD_ints] at hr
  cases hr
  exact ⟨.int _, H, I.kept hk, ⟨_, rfl⟩, q⟩
theorem cr_minT (hc : X.calm = true) (hu : X.A.units + 64 < cLine) : CallR X (.builtin "min") (rMinT X.K) := by
  intro pins s σ H vs us Q I r h
  obtain ⟨a, n, ns, rfl, hs, q⟩ := h
  obtain ⟨its, rv, hl, _⟩ := I.tuple hs
  rw [Vals.ref1 r]
  have rd : ReadsAll s.heap its.toArray.toList (.int n :: ns.map PyData.int) [] := reads_ints (ns := n :: ns) rv
  refine min_tuple_data (I.ok.hd hc) hl rd (alikeInts (n :: ns)) (by
    have e := depth_ints (n :: ns)
    show X.A.units + 1 + PyData.depthAll ((n :: ns).map PyData.int) < cLine
    rw [e]; omega) fun i v h' tk bs hv hr hk => ?_
  rw [minD_ints] at hr
  cases hr
  exact ⟨.int _, H, I.kept hk, ⟨_, rfl⟩, q⟩
end
def fMax1X : List D → Option Rs
  | [.tuple xs] => match intsOf xs with
    | some (n :: ns) => some (.pu (.int (ns.foldl max n)))
    | _ => none
  | ds => fMax1 ds
def fMin1X : List D → Option Rs
  | [.tuple xs] => match intsOf xs with
    | some (n :: ns) => some (.pu (.int (ns.foldl min n)))
    | _ => none
  | ds => fMin1 ds
section
variable {K : PySem.W.Frag}
theorem tups_arg {Z H : Hp} {vs : List V} {xs : List D} {ns : List Int} (e : Same Z H) (r : Paired (Rdb K Z H) vs [.tuple xs]) (h : intsOf xs = some ns) : ∃ a, vs = [.ref a] ∧ SqT K H a (ns.map V.int) := by
  obtain ⟨v, rfl, r1⟩ := Paired.one r
  obtain ⟨b, ws, rfl, hb, rb, _⟩ := r1.tup e
  rw [intsOf_eq h] at rb
  rw [rb.of_ints] at hb
  exact ⟨b, rfl, SqT.of hb⟩
theorem callS_max1X : CallS K (fun x H Q => rMax K x H Q ∨ rMaxT K x H Q) fMax1X := by
  intro vs ds R Z H Q e r hf k
  unfold fMax1X at hf
  split at hf
  · split at hf
    · rename_i n ns q
      cases hf
      obtain ⟨a, rfl, ha⟩ := tups_arg e r q
      exact .inr ⟨a, n, ns, rfl, ha, k _ Z H (.refl e) (.int _)⟩
    · cases hf
  · exact .inl (callS_max1 vs _ R Z H Q e r hf k)
theorem callS_min1X : CallS K (fun x H Q => rMin K x H Q ∨ rMinT K x H Q) fMin1X := by
  intro vs ds R Z H Q e r hf k
  unfold fMin1X at hf
  split at hf
  · split at hf
    · rename_i n ns q
      cases hf
      obtain ⟨a, rfl, ha⟩ := tups_arg e r q
      exact .inr ⟨a, n, ns, rfl, ha, k _ Z H (.refl e) (.int _)⟩
    · cases hf
  · exact .inl (callS_min1 vs _ R Z H Q e r hf k)
end
section
variable {X : Cx} {G : Gm} {B : Wish} {p pos : Pos} {e : Expr} {es : List Expr} {oas : O (List Va)} {k : Nat}
theorem zb_max1X (hr : Room k X.A) (hc : X.calm = true) (hg : Gl X "max") (hm : X.mg "max" = none) (ha : AD X G B (e :: es) oas) (he : starEach (e :: es) X.env = (false, eval e X.env) :: starEach es X.env := by rfl) (hpl : (backTo pos (starEach es X.env)).any (·.1) = false := by rfl) : RD X G B (.Call (.Name "max" p) (e :: es) [] pos) (oCB fMax1X oas) :=
  rd_callB (CallR.or (cr_max hc) (cr_maxT hc hr.units)) callS_max1X hg hm boot_max ha (by decide) (by decide) he hpl
theorem zb_min1X (hr : Room k X.A) (hc : X.calm = true) (hg : Gl X "min") (hm : X.mg "min" = none) (ha : AD X G B (e :: es) oas) (he : starEach (e :: es) X.env = (false, eval e X.env) :: starEach es X.env := by rfl) (hpl : (backTo pos (starEach es X.env)).any (·.1) = false := by rfl) : RD X G B (.Call (.Name "min" p) (e :: es) [] pos) (oCB fMin1X oas) :=
  rd_callB (CallR.or (cr_min hc) (cr_minT hc hr.units)) callS_min1X hg hm boot_min ha (by decide) (by decide) he hpl
end
@[simp] theorem f_max1T (n : Int) (ns : List Int) : fMax1X [.tuple ((n :: ns).map PyData.int)] = some (.pu (.int (ns.foldl max n))) := by
  show (match intsOf ((n :: ns).map PyData.int) with | some (n :: ns) => some (Rs.pu (.int (ns.foldl max n))) | _ => none) = _
  rw [intsOf_map]
@[simp] theorem f_min1T (n : Int) (ns : List Int) : fMin1X [.tuple ((n :: ns).map PyData.int)] = some (.pu (.int (ns.foldl min n))) := by
  show (match intsOf ((n :: ns).map PyData.int) with | some (n :: ns) => some (Rs.pu (.int (ns.foldl min n))) | _ => none) = _
  rw [intsOf_map]
end Ow
namespace Ow
open PySem PySem.Spec PyProof.Rows L2
/-! ### a tuple once, or many times -/
theorem tup_mul1 (l : Addr) (items : Array Value) (n : Nat) (dd : Option Addr) (sl : Array (Option Value)) (u : Tok) :
    Meets (Builtin.«tuple.__mul__» ⟨[.ref l, .int 1 u], []⟩) (fun _ R s => s.heap.get? l = some { cls := .type "tuple", dict := dd, data := .seq items n, slots := sl } ∧ R (.ok (.ret (Value.ref l))) s) :=
  .of_wp fun prog w A R s h => by
    obtain ⟨hp, g, d, tk, os⟩ := s
    obtain ⟨hl, h⟩ := h
    have f1 := AutoSeq1.idx_int
    have c0 : (decide ((1 : Int) < -(2 ^ 63)) || decide ((1 : Int) ≥ 2 ^ 63)) = false := by decide
    have c1 : (items.isEmpty || (1 : Int) == 1) = true := by rw [show ((1 : Int) == 1) = true from rfl, Bool.or_true]
    wp_walk using wpAny_loadPart' hl
    repeat (first
      | (refine wpAny_ite_false (decide_eq_false (by rw [c0]; exact Bool.false_ne_true)) ?_; wp_walk using wpAny_loadPart' hl)
      | (refine wpAny_ite_true (decide_eq_true c1) ?_; wp_walk using wpAny_loadPart' hl))
    exact ⟨_, rfl, h⟩
abbrev rRep1 (K : PySem.W.Frag) : R2 := fun x y H Q => ∃ l xs, x = V.ref l ∧ y = V.int 1 ∧ SqT K H l xs ∧ Q (V.ref l) H
theorem op_rep1 {X : Cx} : OpR X (binaryOp .Mult) (rRep1 X.K) := by
  intro pins s σ H x y v u Q I rx ry h
  obtain ⟨l, xs, rfl, rfl, hT, q⟩ := h
  cases rx
  obtain ⟨t, rfl⟩ := ry
  obtain ⟨its, r, ⟨⟨cls, dd, data, sl⟩, ho, hc, n, hd⟩, hs⟩ := I.tuple hT
  simp only at hc hd
  subst hc hd
  exact wpAny_binaryOp_repeat_ref (T := "tuple") (U := "int") (by decide) ⟨_, ho, rfl⟩ (fun s' => typeIs_int s' 1 t) noFill_tuple_mul F.fills_int_mul F.slot_int_rmul repeat_tuple F.slot_int_index.lookup
    (call_meets F.slot_int_rmul (typeIs_int s 1 t) F.entry_int_rmul (F.args_int_rmul_2 _ _) (int_rmul_tuple 1 t l its.toArray n dd sl)
      ⟨ho, rfl, ⟨_, ho, rfl⟩, call_meets F.slot_tuple_mul ⟨_, ho, rfl⟩ F.entry_tuple_mul (F.args_tuple_mul_2 _ _) (tup_mul1 l its.toArray n dd sl t) ⟨ho, ⟨.ref l, H, I, rfl, q⟩⟩⟩)
def fMulY : D → D → Option Rs
  | .tuple xs, .int k => if k = 1 then some (.pu (.tuple xs)) else if xs ≠ [] ∧ 2 ≤ k ∧ k.natAbs ≤ 1000 ∧ xs.length ≤ 1000 then some (.pu (.tuple (List.replicate k.toNat xs).flatten)) else none
  | a, b => fMulX a b
theorem rp_rep {K : PySem.W.Frag} {Z : Hp} {vs : List V} {ds : List D} (r : RpAll K Z vs ds) (n : Nat) : RpAll K Z (List.replicate n vs).flatten (List.replicate n ds).flatten := by
  induction n with
  | zero => exact .nil
  | succ m ih => rw [List.replicate_succ, List.replicate_succ, List.flatten_cons, List.flatten_cons]; exact r.append ih
theorem binS_mulY {K : PySem.W.Frag} : BinS K (fun x y H Q => rRep1 K x y H Q ∨ (fun x y H Q => rRepT K x y H Q ∨ (fun x y H Q => rMulS x y H Q ∨ rMulAll x y H Q) x y H Q) x y H Q) fMulY := by
  intro x y dx dy R Z H Q e rx ry hf k
  unfold fMulY at hf
  split at hf
  · rename_i ds n
    obtain ⟨b, vs, rfl, hb, rb, qb⟩ := rx.tup e
    split at hf
    · rename_i h1
      subst h1
      cases hf
      exact .inl ⟨b, vs, rfl, ry.int, SqT.of hb, k _ Z H (.refl e) qb⟩
    · split at hf
      · rename_i h1 h2
        cases hf
        have hl := rb.length
        have hne : vs ≠ [] := fun q => h2.1 (by rw [q] at hl; exact List.eq_nil_of_length_eq_zero hl.symm)
        refine .inr (.inl ⟨b, n, vs, rfl, ry.int, SqT.of hb, hne, h2.2.1, by omega, by rw [hl]; exact h2.2.2.2, fun p hp => ?_⟩)
        have g := Grow.still e hp (.tup (List.replicate n.toNat vs).flatten)
        exact k _ _ _ g (.tup upd_same (RpAll.mono (rp_rep rb n.toNat) g.z))
      · cases hf
  · exact .inr (.inr (binS_mulX x y _ _ R Z H Q e rx ry hf k))
section
variable {X : Cx} {G : Gm} {B : Wish} {a b : Expr} {pos : Pos} {oa ob : O Va}
theorem rd_mulY (ha : ED X G B a oa) (hb : ED X G B b ob) : RD X G B (.BinOp a .Mult b pos) (oBin fMulY oa ob) := rd_bin (op_rep1.or (op_repT.or (op_mulS.or op_mulAll))) binS_mulY ha hb
end
@[simp] theorem fy_t (xs : List D) (k : Int) : fMulY (.tuple xs) (.int k) = if k = 1 then some (.pu (.tuple xs)) else if xs ≠ [] ∧ 2 ≤ k ∧ k.natAbs ≤ 1000 ∧ xs.length ≤ 1000 then some (.pu (.tuple (List.replicate k.toNat xs).flatten)) else none := rfl
@[simp] theorem fy_i (i j : Int) : fMulY (.int i) (.int j) = fMulX (.int i) (.int j) := rfl
@[simp] theorem fy_s (x : Str) (j : Int) : fMulY (.str x) (.int j) = fMulX (.str x) (.int j) := rfl
@[simp] theorem fy_l (xs : List D) (j : Int) : fMulY (.list xs) (.int j) = fMulX (.list xs) (.int j) := rfl
end Ow
namespace Ow
open PySem PySem.W PySem.Spec PyProof.Rows L2
/-! ### max with default= -/
def maxDef : List Int → Int → Int
  | [], d => d
  | n :: ns, _ => ns.foldl max n
def rMaxDef (K : PySem.W.Frag) : List V → List V → Hp → VK → Prop := fun vs zs H Q => ∃ (a : Addr) (ns : List Int) (d : Int), vs = [V.ref a] ∧ zs = [V.int d] ∧ SqL K H a (ns.map V.int) ∧ Q (.int (maxDef ns d)) H
theorem cr_maxDef {X : Cx} (hc : X.calm = true) (hu : X.A.units + 64 < cLine) : CallRK X (.builtin "max") [Str.ofString "default"] (rMaxDef X.K) := by
  intro pins s σ H vs zs us ws Q I r rz h
  obtain ⟨a, ns, d, rfl, rfl, hs, q⟩ := h
  obtain ⟨its, rv, hl, _⟩ := I.list hs
  rw [Vals.ref1 r]
  obtain ⟨w1, rfl, e1⟩ := vals1 rz
  obtain ⟨t, rfl⟩ := e1
  have rd : ReadsAll s.heap its.toArray.toList (ns.map PyData.int) [] := reads_ints (ns := ns) rv
  refine max_list_default (d := .int d t) (I.ok.hd hc) hl.isList rd (alikeInts ns) (by
    have e := depth_ints ns
    show X.A.units + 1 + PyData.depthAll (ns.map PyData.int) < cLine
    rw [e]; omega) (fun h0 h' tk hk => ?_) fun y ys i v h' tk bs he hv hr hk => ?_
  · cases ns with
    | nil => exact ⟨.int d, H, I.kept hk, ⟨t, rfl⟩, q⟩
    | cons n ns => cases h0
  · cases ns with
    | nil => cases he
    | cons n ns =>
      cases he
      rw [maxD_ints] at hr
      cases hr
      exact ⟨.int _, H, I.kept hk, ⟨_, rfl⟩, q⟩
def mxd1 (as : List Va) (d : D) (ρ : Rho) : M Rs := match rdVs ρ as, d with
  | some [.list xs], .int k => match intsOf xs with
    | some ns => .ok (.pu (.int (maxDef ns k))) ρ
    | none => .st
  | _, _ => .st
def oMaxD (oas : O (List Va)) (od : O D) : O Rs := fun ρ => (oas ρ).bind fun as ρ1 => (od ρ1).bind fun d ρ2 => mxd1 as d ρ2
section
variable {X : Cx} {G : Gm} {B : Wish} {p pos kpos : Pos} {e e2 : Expr} {oas : O (List Va)} {od : O D} {oe : O Va} {k : Nat}
theorem zb_maxDef (hr : Room k X.A) (hc : X.calm = true) (hg : Gl X "max") (hm : X.mg "max" = none) (ha : AD X G B [e] oas) (hd : PD X G B e2 od)
    (he : backTo pos (starEach [e] X.env) = (false, eval e X.env) :: backTo pos (starEach [] X.env) := by rfl) (hpl : (backTo pos (starEach [e] X.env)).any (·.1) = false := by rfl)
    (hall : (backToKw pos (keywordEach [⟨some (Str.ofString "default"), e2, kpos⟩] X.env)).all (·.1.isSome) = true := by rfl) (hnone : (backToKw pos (keywordEach [⟨some (Str.ofString "default"), e2, kpos⟩] X.env)).any (·.1.isNone) = false := by rfl)
    (hks : (backToKw pos (keywordEach [⟨some (Str.ofString "default"), e2, kpos⟩] X.env)).filterMap (·.1) = [Str.ofString "default"] := by rfl) : RD X G B (.Call (.Name "max" p) [e] [⟨some (Str.ofString "default"), e2, kpos⟩] pos) (oMaxD oas od) :=
  pe_imp (pe_callBK (cr_maxDef hc hr.units) hg hm boot_max ha (pk_cons hd pk_nil) (by decide) (by decide) he hpl hall hnone hks) fun σ H Q w => by
    obtain ⟨Z, ρ, S, p⟩ := w
    refine ⟨Z, ρ, S, Post.bind p fun vs as ρ1 Z1 H1 e1 S1 r1 p1 => ?_⟩
    refine ⟨Z1, ρ1, S1, Post.bind p1 fun z d ρ2 Z2 H2 e2 S2 r2 p2 => ?_⟩
    unfold mxd1 at p2
    split at p2
    · rename_i xs k' hx
      split at p2
      · rename_i ns hns
        have r1' : VasR X.K Z2 ρ2 σ H2 vs as := Paired.mapP r1 fun _ _ h => h.mono e2
        obtain ⟨a, rfl, ha⟩ := ints_arg S2.zh (S2.rdbs r1' hx) hns
        have r2' : Rp X.K Z2 z (.int k') := r2
        cases r2'
        exact ⟨a, ns, k', rfl, rfl, ha, p2.fin S2 (.refl S2.zh) (.int _)⟩
      · exact p2.elim
    · exact p2.elim
end
/-! ### index, of ints -/
def fIndex : D → List D → Option Rs
  | .list xs, [.int k] => match intsOf xs with
    | some ns => if k ∈ ns then some (.pu (.int ((ns.idxOf k : Nat) : Int))) else none
    | none => none
  | _, _ => none
theorem idxOf_spec {k : Int} : ∀ {ns : List Int}, k ∈ ns → ns[ns.idxOf k]? = some k ∧ ∀ m z, m < ns.idxOf k → ns[m]? = some z → z ≠ k
  | [], h => by cases h
  | n :: ns, h => by
    by_cases q : n = k
    · subst q
      rw [List.idxOf_cons_self]
      exact ⟨rfl, fun m z hm => absurd hm (Nat.not_lt_zero _)⟩
    · have hk : k ∈ ns := (List.mem_cons.mp h).resolve_left fun e => q e.symm
      obtain ⟨h1, h2⟩ := idxOf_spec hk
      have e : (n :: ns).idxOf k = ns.idxOf k + 1 := by unfold List.idxOf; rw [List.findIdx_cons]; have e0 : (n == k) = false := beq_eq_false_iff_ne.mpr q; rw [e0]; rfl
      rw [e]
      refine ⟨h1, fun m z hm hz => ?_⟩
      cases m with
      | zero => cases hz; exact q
      | succ m => exact h2 m z (Nat.lt_of_succ_lt_succ hm) hz
theorem metS_index {K : PySem.W.Frag} : MetS K (rIndex K) fIndex := by
  intro x d vs ds R Z H Q e rx rxs hf k
  unfold fIndex at hf
  split at hf
  · rename_i xs i
    split at hf
    · rename_i ns hns
      split at hf
      · rename_i hi
        cases hf
        obtain ⟨b, ws, rfl, hb, rb⟩ := rx.list e
        rw [intsOf_eq hns] at rb
        rw [rb.of_ints] at hb
        obtain ⟨v, rfl, r1⟩ := Paired.one rxs
        obtain ⟨h1, h2⟩ := idxOf_spec hi
        refine ⟨b, ns.map V.int, .int i, ns.idxOf i, .int i, rfl, by rw [r1.int], SqL.of hb, rfl, ?_, by rw [List.getElem?_map, h1]; rfl, by show (i == i) = true; exact beq_self_eq_true i, fun m z' hm hz => ?_, k _ Z H (.refl e) (.int _)⟩
        · rw [List.all_eq_true]
          intro v hv
          obtain ⟨n, _, rfl⟩ := List.mem_map.mp hv
          rfl
        · rw [List.getElem?_map] at hz
          cases hq : ns[m]? with
          | none => rw [hq] at hz; cases hz
          | some n =>
            rw [hq] at hz
            cases hz
            show (n == i) = false
            exact beq_eq_false_iff_ne.mpr (h2 m n hm hq)
      · cases hf
    · cases hf
  · cases hf
section
variable {X : Cx} {G : Gm} {B : Wish} {apos cpos pos p1 p2 p3 p q : Pos} {e o a b : Expr} {es : List Expr} {oo oe : O Va} {oas : O (List Va)} {k : Nat} {oa ob : O D}
theorem zm_index (ho : ED X G B o oo) (ha : AD X G B (e :: es) oas)
    (hbase : attributeBase o "index" X.env (eval o X.env) = eval o X.env := by rfl)
    (hfew : ((backTo cpos (starEach (e :: es) X.env)).all (fun x => !x.1) && (backToKw cpos (keywordEach [] X.env)).all (fun x => x.1.isSome)
      && decide ((e :: es).length + ([] : List Keyword).length + (if ([] : List Keyword).isEmpty then 0 else 1) < 30)) = true := by rfl)
    (hline : (apos.endLine == cpos.line) = true := by rfl) (hs : starEach (e :: es) X.env = (false, eval e X.env) :: starEach es X.env := by rfl) (hplain : (backTo cpos (starEach es X.env)).any (·.1) = false := by rfl) :
    RD X G B (.Call (.Attribute o "index" apos) (e :: es) [] cpos) (oBM "list" fIndex oo oas) :=
  rd_bm F.plainAttrs_list F.slot_list_index F.type_list_index mt_index metS_index ho ha hbase hfew hline hs hplain
/-! ### a list turned about -/
def rev1 (a : Va) (ρ : Rho) : M Rs := match rdV ρ a with
  | some (.list ds) => .ok (.nw (.li ds.reverse)) ρ
  | _ => .st
def oRev (o : O Va) : O Rs := fun ρ => (o ρ).bind rev1
theorem rd_rev (he : ED X G B e oe) : RD X G B (.Subscript e (.Slice none none (some (.UnaryOp .USub (.Constant (.int 1) k p1) p2)) p3) pos) (oRev oe) :=
  pe_imp (pe_revL he) fun σ H Q w => run_imp w fun x va ρ1 Z1 H1 S1 r1 p1 => by
    unfold rev1 at p1
    split at p1
    · rename_i ds hd
      obtain ⟨b, vs, rfl, hb, rb⟩ := (S1.rdb r1 hd).list S1.zh
      exact ⟨b, vs, rfl, SqL.of hb, fun q hq => p1.fin S1 (.loose S1.zh hq _) ⟨q, _, rfl, hq, none_of_same S1.zh hq, upd_same, rb.reverse⟩⟩
    · exact p1.elim
/-! ### list(range(..)) -/
theorem rp_rg {K : PySem.W.Frag} {Z : Hp} (i : Int) (n : Nat) : RpAll K Z ((List.range n).map fun k => V.int (i + (k : Nat))) (rangeD i n) := by
  unfold rangeD
  have : ∀ l : List Nat, RpAll K Z (l.map fun k => V.int (i + (k : Nat))) (l.map fun k => PyData.int (i + (k : Nat))) := fun l => by
    induction l with
    | nil => exact .nil
    | cons m l ih => exact .cons (.int _) ih
  exact this _
def lrg1 (d : D) (ρ : Rho) : M Rs := match d with
  | .int j => if j.natAbs ≤ 16000000 then .ok (.nw (.li (rangeD 0 j.toNat))) ρ else .st
  | _ => .st
def lrg2 (d d2 : D) (ρ : Rho) : M Rs := match d, d2 with
  | .int i, .int j => if i.natAbs ≤ 8000000 ∧ j.natAbs ≤ 8000000 then .ok (.nw (.li (rangeD i (j - i).toNat))) ρ else .st
  | _, _ => .st
def oLrg1 (o : O D) : O Rs := fun ρ => (o ρ).bind lrg1
def oLrg2 (o o2 : O D) : O Rs := fun ρ => (o ρ).bind fun d ρ1 => (o2 ρ1).bind fun d2 ρ2 => lrg2 d d2 ρ2
theorem rd_lrg1 (hc : X.calm = true) (hg : Gl X "list") (hm : X.mg "list" = none) (hg2 : Gl X "range") (hm2 : X.mg "range" = none) (ha : PD X G B a oa) (na : starEach [a] X.env = (false, eval a X.env) :: starEach [] X.env := by rfl)
    (ne : starEach [.Call (.Name "range" q) [a] [] p1] X.env = (false, eval (.Call (.Name "range" q) [a] [] p1) X.env) :: starEach [] X.env := by rfl) : RD X G B (.Call (.Name "list" p) [.Call (.Name "range" q) [a] [] p1] [] pos) (oLrg1 oa) :=
  pe_imp (pe_listRg hc hg hm (prg_1 hg2 hm2 ha na) ne) fun σ H Q w => run_imp w fun x d ρ1 Z1 H1 S1 r1 p1 => by
    unfold lrg1 at p1
    split at p1
    · rename_i j
      split at p1
      · rename_i hj
        have r1' : Rp X.K Z1 x (.int j) := r1
        cases r1'
        refine ⟨j, rfl, ⟨by omega, by omega, by omega, by omega, by omega⟩, fun q hq => p1.fin S1 (.loose S1.zh hq _) ⟨q, _, rfl, hq, none_of_same S1.zh hq, upd_same, ?_⟩⟩
        have h := rp_rg (K := X.K) (Z := Z1) 0 j.toNat
        show RpAll X.K Z1 (rgV 0 j) (rangeD 0 j.toNat)
        unfold rgV
        rw [Int.sub_zero]
        exact h
      · exact p1.elim
    · exact p1.elim
theorem rd_lrg2 (hc : X.calm = true) (hg : Gl X "list") (hm : X.mg "list" = none) (hg2 : Gl X "range") (hm2 : X.mg "range" = none) (ha : PD X G B a oa) (hb : PD X G B b ob)
    (na : starEach [a, b] X.env = (false, eval a X.env) :: starEach [b] X.env := by rfl) (nb : starEach [b] X.env = (false, eval b X.env) :: starEach [] X.env := by rfl) (hp : (backTo p1 (starEach [b] X.env)).any (·.1) = false := by rfl)
    (ne : starEach [.Call (.Name "range" q) [a, b] [] p1] X.env = (false, eval (.Call (.Name "range" q) [a, b] [] p1) X.env) :: starEach [] X.env := by rfl) :
    RD X G B (.Call (.Name "list" p) [.Call (.Name "range" q) [a, b] [] p1] [] pos) (oLrg2 oa ob) :=
  pe_imp (pe_listRg hc hg hm (prg_2 hg2 hm2 ha hb na nb hp) ne) fun σ H Q w => run_imp w fun x d ρ1 Z1 H1 S1 r1 p1 => ⟨Z1, ρ1, S1, Post.bind p1 fun y d2 ρ2 Z2 H2 e2 S2 r2 p2 => by
    unfold lrg2 at p2
    split at p2
    · rename_i i j
      split at p2
      · rename_i hj
        have r1' : Rp X.K Z1 x (.int i) := r1
        have r2' : Rp X.K Z2 y (.int j) := r2
        cases r1'
        cases r2'
        refine ⟨i, j, rfl, rfl, ⟨by omega, by omega, by omega, by omega, by omega⟩, fun q hq => p2.fin S2 (.loose S2.zh hq _) ⟨q, _, rfl, hq, none_of_same S2.zh hq, upd_same, rp_rg i (j - i).toNat⟩⟩
      · exact p2.elim
    · exact p2.elim⟩
end
section
variable (z : Sl) (ρ : Rho)
@[simp] theorem ap_maxD (oas : O (List Va)) (od : O D) : oMaxD oas od (z :: ρ) = (oas (z :: ρ)).bind fun as ρ1 => (od ρ1).bind fun d ρ2 => mxd1 as d ρ2 := rfl
@[simp] theorem ap_rev (o : O Va) : oRev o (z :: ρ) = (o (z :: ρ)).bind rev1 := rfl
@[simp] theorem ap_lrg1 (o : O D) : oLrg1 o (z :: ρ) = (o (z :: ρ)).bind lrg1 := rfl
@[simp] theorem ap_lrg2 (o o2 : O D) : oLrg2 o o2 (z :: ρ) = (o (z :: ρ)).bind fun d ρ1 => (o2 ρ1).bind fun d2 ρ2 => lrg2 d d2 ρ2 := rfl
@[simp] theorem rev1_eq (a : Va) : rev1 a ρ = match rdV ρ a with | some (.list ds) => .ok (.nw (.li ds.reverse)) ρ | _ => .st := rfl
@[simp] theorem lrg1_eq (j : Int) : lrg1 (.int j) ρ = if j.natAbs ≤ 16000000 then .ok (.nw (.li (rangeD 0 j.toNat))) ρ else .st := rfl
@[simp] theorem lrg2_eq (i j : Int) : lrg2 (.int i) (.int j) ρ = if i.natAbs ≤ 8000000 ∧ j.natAbs ≤ 8000000 then .ok (.nw (.li (rangeD i (j - i).toNat))) ρ else .st := rfl
theorem mxd1_eq (as : List Va) (d : D) : mxd1 as d ρ = match rdVs ρ as, d with
  | some [.list xs], .int k => (match intsOf xs with
    | some ns => .ok (.pu (.int (maxDef ns k))) ρ
    | none => .st)
  | _, _ => .st := rfl
theorem lrg1_nat {n : Nat} (h : n ≤ 16000000) : lrg1 (.int (n : Int)) ρ = .ok (.nw (.li (rangeD 0 n))) ρ := by
  rw [lrg1_eq, if_pos (by omega)]
  rfl
end
theorem fIndex_eq {ns : List Int} {k : Int} (h : k ∈ ns) : fIndex (.list (ns.map PyData.int)) [.int k] = some (.pu (.int ((ns.idxOf k : Nat) : Int))) := by
  show (match intsOf (ns.map PyData.int) with | some ns => if k ∈ ns then some (Rs.pu (.int ((ns.idxOf k : Nat) : Int))) else none | none => none) = _
  rw [intsOf_map]
  exact if_pos h
end Ow
namespace Ow
open PySem PySem.W PySem.Spec PyProof.Rows L2
theorem wbp : ∀ (ds : List D) (o : List Sl) (ρ : Rho), wb (ds.map Va.pu) o ρ = ρ
  | [], o, ρ => by rw [List.map_nil, wb_nil]
  | d :: ds, [], ρ => rfl
  | d :: ds, a :: o, ρ => by rw [List.map_cons, wb_pu, wbp ds o ρ]
section
variable (ρ : Rho) (a b c d e f g : D) (o : List Sl)
theorem wb1 : wb [.pu a] o ρ = ρ := wbp [a] o ρ
theorem wb2 : wb [.pu a, .pu b] o ρ = ρ := wbp [a, b] o ρ
theorem wb3 : wb [.pu a, .pu b, .pu c] o ρ = ρ := wbp [a, b, c] o ρ
theorem wb4 : wb [.pu a, .pu b, .pu c, .pu d] o ρ = ρ := wbp [a, b, c, d] o ρ
theorem wb5 : wb [.pu a, .pu b, .pu c, .pu d, .pu e] o ρ = ρ := wbp [a, b, c, d, e] o ρ
theorem wb6 : wb [.pu a, .pu b, .pu c, .pu d, .pu e, .pu f] o ρ = ρ := wbp [a, b, c, d, e, f] o ρ
theorem wb7 : wb [.pu a, .pu b, .pu c, .pu d, .pu e, .pu f, .pu g] o ρ = ρ := wbp [a, b, c, d, e, f, g] o ρ
end
theorem max1_eq (n : Int) (ns : List Int) : fMax1X [.list ((n :: ns).map PyData.int)] = some (.pu (.int (maxI (n :: ns)))) := by
  show (match intsOf ((n :: ns).map PyData.int) with | some (n :: ns) => some (Rs.pu (.int (maxI (n :: ns)))) | _ => none) = _
  rw [intsOf_map]
theorem maxI_cons (x y : Int) (r : List Int) : maxI (x :: y :: r) = if maxI (y :: r) > x then maxI (y :: r) else x := rfl
theorem maxI_one (x : Int) : maxI [x] = x := rfl
theorem maxI_is {ns : List Int} {m : Int} (h : m ∈ ns) (hle : ∀ y ∈ ns, y ≤ m) : maxI ns = m := by
  have h1 := maxI_ge m h
  have h2 := hle _ (maxI_mem (ns := ns) (by intro e; rw [e] at h; cases h))
  omega
theorem foldl_max_ge : ∀ (ns : List Int) (a : Int), a ≤ ns.foldl max a ∧ ∀ y ∈ ns, y ≤ ns.foldl max a
  | [], a => ⟨Int.le_refl _, fun y h => by cases h⟩
  | n :: ns, a => by
    obtain ⟨h1, h2⟩ := foldl_max_ge ns (max a n)
    rw [List.foldl_cons]
    refine ⟨by omega, fun y hy => ?_⟩
    rcases List.mem_cons.mp hy with rfl | hy
    · omega
    · exact h2 y hy
theorem foldl_max_mem : ∀ (ns : List Int) (a : Int), ns.foldl max a = a ∨ ns.foldl max a ∈ ns
  | [], a => .inl rfl
  | n :: ns, a => by
    rw [List.foldl_cons]
    rcases foldl_max_mem ns (max a n) with h | h
    · rw [h]
      rcases Int.le_total a n with q | q
      · rw [Int.max_eq_right q]; exact .inr List.mem_cons_self
      · rw [Int.max_eq_left q]; exact .inl rfl
    · exact .inr (List.mem_cons_of_mem _ h)
theorem maxI_foldl (n : Int) (ns : List Int) : maxI (n :: ns) = ns.foldl max n := by
  obtain ⟨h1, h2⟩ := foldl_max_ge ns n
  refine maxI_is ?_ fun y hy => ?_
  · rcases foldl_max_mem ns n with h | h
    · rw [h]; exact List.mem_cons_self
    · exact List.mem_cons_of_mem _ h
  · rcases List.mem_cons.mp hy with rfl | hy
    · exact h1
    · exact h2 y hy
/-- an item of a mapped list, at a place -/
theorem at_m {α : Type} (f : α → D) {xs : List α} {k : Nat} {x : α} (h : xs[k]? = some x) : L2.atI (xs.map f) ((k : Nat) : Int) = some (f x) := by
  rw [atI_cast, List.getElem?_map, h]
  rfl
theorem at_mi {α : Type} (f : α → D) {xs : List α} {i : Int} {x : α} (h0 : 0 ≤ i) (h : xs[i.toNat]? = some x) : L2.atI (xs.map f) i = some (f x) := by
  rw [atI_nn h0, List.getElem?_map, h]
  rfl
theorem range_len (n : Nat) : (rangeD 0 n).length = n := rangeD_length 0 n
/-- what a plain program does, read off -/
theorem erase_perm {α : Type} : ∀ {xs : List α} {i : Nat} (h : i < xs.length), (xs[i] :: xs.eraseIdx i).Perm xs
  | x :: xs, 0, _ => .refl _
  | x :: xs, i + 1, h => by
    have ih := erase_perm (xs := xs) (i := i) (Nat.lt_of_succ_lt_succ h)
    rw [List.eraseIdx_cons_succ, List.getElem_cons_succ]
    exact (List.Perm.swap x _ _).trans (List.Perm.cons x ih)
/-- a comprehension whose items go with those of another list -/
theorem lcL_inv2 {α : Type} {vs : List Nat} {g : D → Rho → Option Rho} {oe : O D} {k : α → D} {P : α → D → Prop} (I : Rho → Prop) : ∀ {l : List α} {ρ : Rho},
    (∀ a ∈ l, ∀ ρ, I ρ → ∃ y ρ1 ρ3, g (k a) ρ = some ρ1 ∧ oe ρ1 = .ok y ρ3 ∧ P a y ∧ I (wipeR ρ3 vs)) → I ρ → ∃ ys ρ', lcL vs g oYes oe (l.map k) ρ = .ok ys ρ' ∧ I ρ' ∧ Paired P l ys
  | [], ρ, _, hi => ⟨[], ρ, rfl, hi, .nil⟩
  | d :: ds, ρ, h, hi => by
    obtain ⟨y, ρ1, ρ3, h1, h2, h3, h4⟩ := h d List.mem_cons_self ρ hi
    obtain ⟨ys, ρ', h5, h6, h7⟩ := lcL_inv2 I (l := ds) (fun d hd => h d (List.mem_cons_of_mem _ hd)) h4
    refine ⟨y :: ys, ρ', ?_, h6, .cons h3 h7⟩
    rw [List.map_cons, lcL_cons, h1]
    dsimp only
    rw [oYes_eq]
    dsimp only
    rw [h2]
    dsimp only
    rw [h5, M.bind_ok]
theorem ex_map {α : Type} {f : α → D} {Q : α → Prop} : ∀ {ys : List D}, (∀ y ∈ ys, ∃ x, y = f x ∧ Q x) → ∃ xs : List α, ys = xs.map f ∧ ∀ x ∈ xs, Q x
  | [], _ => ⟨[], rfl, fun x h => by cases h⟩
  | y :: ys, h => by
    obtain ⟨x, rfl, hx⟩ := h y List.mem_cons_self
    obtain ⟨xs, rfl, hxs⟩ := ex_map (ys := ys) fun z hz => h z (List.mem_cons_of_mem _ hz)
    refine ⟨x :: xs, rfl, fun z hz => ?_⟩
    rcases List.mem_cons.mp hz with rfl | hz
    · exact hx
    · exact hxs z hz
theorem ex_map2 {α β : Type} {f : β → D} {Q : α → β → Prop} : ∀ {l : List α} {ys : List D}, Paired (fun a y => ∃ x, y = f x ∧ Q a x) l ys → ∃ xs : List β, ys = xs.map f ∧ Paired Q l xs
  | [], _, .nil => ⟨[], rfl, .nil⟩
  | a :: l, _, .cons h r => by
    obtain ⟨x, rfl, hx⟩ := h
    obtain ⟨xs, rfl, hxs⟩ := ex_map2 r
    exact ⟨x :: xs, rfl, .cons hx hxs⟩
theorem paired_len {α β : Type} {Q : α → β → Prop} : ∀ {l : List α} {xs : List β}, Paired Q l xs → l.length = xs.length
  | _, _, .nil => rfl
  | _, _, .cons _ h => by rw [List.length_cons, List.length_cons, paired_len h]
theorem len1_rf (i : Nat) (ρ : Rho) : len1 (.rf i) ρ = match ρ[i]? with
  | some (.ow _ (.li ds)) => .ok (.pu (.int ds.length)) ρ
  | some (.ow _ (.dk kvs)) => .ok (.pu (.int kvs.length)) ρ
  | some (.al k j) => (match ρ[k]? with
    | some (.ll (.li xss)) => (match xss[j]? with
      | some xs => .ok (.pu (.int xs.length)) ρ
      | none => .st)
    | _ => .st)
  | _ => .st := by
  unfold len1 rdV
  dsimp only
  cases h : ρ[i]? with
  | none => rfl
  | some s =>
    cases s with
    | ow p c => cases c <;> rfl
    | al k j =>
      dsimp only
      cases ρ[k]? with
      | none => rfl
      | some t =>
        cases t with
        | ll n =>
          cases n with
          | li xss => dsimp only; cases xss[j]? <;> rfl
          | dd _ => rfl
        | _ => rfl
    | _ => rfl
theorem cut_to {α : Type} (xs : List α) {i : Int} (h : 0 ≤ i) : cutD xs none (some i) = xs.take i.toNat := by
  unfold cutD HT.sIx
  dsimp only
  rw [if_neg (by omega), List.drop_zero, Nat.sub_zero, List.take_eq_take_iff]
  omega
theorem cut_from {α : Type} (xs : List α) {i : Int} (h : 0 ≤ i) : cutD xs (some i) none = xs.drop i.toNat := by
  unfold cutD HT.sIx
  dsimp only
  rw [if_neg (by omega)]
  by_cases q : i.toNat ≤ xs.length
  · rw [Nat.min_eq_left q, List.take_of_length_le]
    rw [List.length_drop]
    exact Nat.le_refl _
  · rw [Nat.min_eq_right (by omega), Nat.sub_self, List.take_zero, List.drop_eq_nil_of_le (by omega)]
theorem atI_last {α : Type} (xs : List α) (x : α) : L2.atI (xs ++ [x]) (-1) = some x := by
  unfold L2.atI L2.ixN
  rw [if_neg (by decide), if_pos (by rw [List.length_append]; simp; omega)]
  rw [List.length_append]
  show (xs ++ [x])[_]? = _
  rw [show ((-1 : Int) + ((xs.length + [x].length : Nat) : Int)).toNat = xs.length by simp; omega]
  simp
theorem short_num : ∀ k : Nat, k < 70 → ((toString ((k : Nat) : Int) : String) : Str).length ≤ 10 := by decide +kernel
theorem str_num {k : Nat} (h : k < 70) : ∃ s : Str, s.length ≤ 10 ∧ fStr1 [.int (k : Int)] = some (.pu (.str s)) := by
  refine ⟨_, short_num k h, ?_⟩
  show (if ((k : Nat) : Int).natAbs.log2 < 1920 then _ else none) = _
  rw [if_pos]
  have h1 : ∀ k : Nat, k < 70 → ((k : Nat) : Int).natAbs.log2 < 1920 := by decide +kernel
  exact h1 k h
theorem mul_one {c : Nat} (hc : c ≤ 1000) (d : D) : fMulX (.list [d]) (.int (c : Int)) = some (.nw (.li (List.replicate c d))) := by
  show fMul (.list [d]) (.int (c : Int)) = _
  unfold fMul
  dsimp only
  rw [if_pos ⟨by omega, by simp; omega, by rw [Int.natAbs_natCast]; omega⟩]
  have : ∀ k : Nat, (List.replicate k [d]).flatten = List.replicate k d := fun k => by
    induction k with
    | zero => rfl
    | succ k ih => rw [List.replicate_succ, List.flatten_cons, ih]; rfl
  rw [Int.toNat_natCast, this]
theorem loose_okS {s : Sl} (h : loose (some s) = true) : okS (some s) = true := by
  cases s with
  | ow p c => cases h
  | _ => rfl
end Ow
namespace Ow
open PySem PySem.W PySem.Spec PyProof.Rows L2
open AutoSeq1 (wpAny_loadPart')
/-! ### enumerate of a tuple -/
abbrev etH (h : Heap) (l : Addr) : Heap := h.push { cls := .type "tuple_iterator", data := .fields #[.ref l, .int 0 0] }
abbrev etZ (h : Heap) (l : Addr) : Heap := (etH h l).push { cls := .type "enumerate", data := .fields #[.none, .bool false, .ref h.objs.size, rawInt 0, .none, .none] }
theorem enumT_new (l : Addr) (its : Array Value) (n : Nat) (dd : Option Addr) (sl : Array (Option Value)) :
    Meets (Builtin.«enumerate.__new__» ⟨[.type "enumerate", .ref l], []⟩) (fun _ R s => s.heap.get? l = some { cls := .type "tuple", dict := dd, data := .seq its n, slots := sl } ∧ R (.ok (.ret (.ref (etH s.heap l).objs.size))) { s with heap := etZ s.heap l }) :=
  .of_wp fun prog w A R s k => by
    obtain ⟨hp, g, d, tk, os⟩ := s
    obtain ⟨hl, k⟩ := k
    have es := sub_enumerate
    have tL : Heap.IsTuple (Shared.heap ⟨hp, g, d, tk, os⟩) l its := ⟨_, hl, rfl, n, rfl⟩
    wp_walk using wpAny_loadPart' hl
    refine wpAny_stack_any fun fr => ?_
    refine wpAny_pure ?_
    split
    · rename_i c _ _ _ _ _
      cases (c == Value.type "enumerate") <;> (wp_walk using wpAny_loadPart' hl, wpAny_pyIter_tuple tL) <;> exact ⟨_, rfl, k⟩
    · wp_walk using wpAny_loadPart' hl, wpAny_pyIter_tuple tL
      exact ⟨_, rfl, k⟩
theorem call_enumT {prog : Program} {w : World} {A : Around} {E : Value → Shared → Prop} {s : Shared} {l : Addr} {its : Array Value} {Q : Value → Shared → Prop} (tL : s.heap.IsTuple l its)
    (k : ∀ h', IsEnum h' (s.heap.objs.size + 1) s.heap.objs.size 0 .none → h'.IsTupleIter s.heap.objs.size l 0 → h'.objs.size = s.heap.objs.size + 2 → (∀ b o, s.heap.get? b = some o → h'.get? b = some o) → Q (.ref (s.heap.objs.size + 1)) { s with heap := h' }) :
    wpAny (model prog w) A (call (.type "enumerate") [.ref l]) Q E s := by
  obtain ⟨⟨c, dd, dt, sl⟩, hl, hc, n, hd⟩ := tL
  simp only at hc hd
  subst hc hd
  have zz : (etH s.heap l).objs.size = s.heap.objs.size + 1 := Heap.size_push ..
  have ee : IsEnum (etZ s.heap l) (s.heap.objs.size + 1) s.heap.objs.size 0 .none := by
    have q := Heap.get?_push_size (etH s.heap l) (o := { cls := .type "enumerate", data := .fields #[.none, .bool false, .ref s.heap.objs.size, rawInt 0, .none, .none] }) rfl
    rw [zz] at q
    exact q
  refine callType_new F.called_enumerate (by decide) (F.typeCall_enumerate_1 _) (F.newCall_enumerate_1 _) (fun o => F.args_object_init_2 o _) F.entry_enumerate_new (enumT_new l its n dd sl) ⟨hl, ?_⟩
  show _ ∧ _
  rw [zz]
  exact ⟨⟨_, ee, rfl⟩, k _ ee ⟨_, Heap.get?_push_of_some _ (Heap.get?_push_size _ rfl), rfl, rfl⟩ (by rw [Heap.size_push, zz]) fun b o x => Heap.get?_push_of_some _ (Heap.get?_push_of_some _ x)⟩
def IteT (K : PySem.W.Frag) (a : Addr) : It :=
  ⟨fun i H => ∃ (xs : List V) (x : V), SqT K H a xs ∧ xs[i]? = some x, fun i H v H' => ∃ T x, v = .ref T ∧ H T = none ∧ H' = upd H T (.tup [.int (i : Nat), x]) ∧ ∀ xs, SqT K H a xs → xs[i]? = some x, fun i H => ∃ xs : List V, SqT K H a xs ∧ xs.length ≤ i⟩
theorem turn_enumT {P : Program} {w : World} {K : PySem.W.Frag} {elts : List Expr} {kk : Nat} {tpos : Pos} (a e it : Addr) :
    Turn P w K (.Tuple elts kk tpos) (IteT K a) [e, it] e (fun i h => (∃ old, IsEnum h e it ((i : Nat) : Int) old) ∧ h.IsTupleIter it a i ∧ e ≠ it ∧ a ≠ it ∧ a ≠ e) where
  mem := by simp
  obj := fun i h st b hb => by
    obtain ⟨⟨old, he⟩, ⟨o, ho, hc, hd⟩, _⟩ := st
    rcases (by simpa using hb : b = e ∨ b = it) with rfl | rfl
    · exact ⟨_, he, fun v q => nomatch q⟩
    · exact ⟨o, ho, fun v q => by rw [hd] at q; cases q⟩
  keep := fun i h h' st k => by
    obtain ⟨⟨old, he⟩, hi, h3⟩ := st
    exact ⟨⟨old, k e (by simp) _ he⟩, hi.at fun o q => k it (by simp) o q, h3⟩
  item := by
    intro X hP hw hK hc i pins s σ H E I hf st hg
    subst hP hw hK
    obtain ⟨⟨old, he⟩, hit, hne, hai, hae⟩ := st
    obtain ⟨xs, x, hq, hx⟩ := hg
    obtain ⟨its, rv, p, hz⟩ := I.tuple hq
    obtain ⟨u, hu, ru⟩ := rv.get hx
    have hel := Heap.lt_size he
    have hil : it < s.heap.objs.size := Heap.lt_size hit.choose_spec.1
    have hlt : i < its.toArray.size := by
      rw [List.size_toArray]
      exact (List.getElem?_eq_some_iff.mp hu).1
    refine wpAny_pyNext_enum_itemD (Draws.tuple (A := X.A.in1) (I.ok.hd hc) it a hai its.toArray) he ⟨hit, p⟩ hlt hne (by simp [hne, Ne.symm hae]) fun u2 h' tk hP ho hS hT hsz hk => ?_
    have hu2 : u2 = u := by
      have h1 : its.toArray[i]? = some u := by simpa using hu
      rw [h1] at hP
      exact (Option.some.inj hP).symm
    subst hu2
    refine ⟨_, rfl, wpAny_letOwnedTupleGo_enum (s := { s with heap := h', toks := tk + 1 }) ho fun h'' he' sb => ?_⟩
    have hT2 : h''.get? s.heap.objs.size = some { cls := .type "tuple", data := .seq #[.int i tk, u2] } := (sb.2 _ (Nat.ne_of_gt hel)).trans hT
    have nok : ObjOk X.prog X.w (upd H s.heap.objs.size (.tup [.int (i : Nat), x])) h'' s.heap.objs.size (.tup [.int (i : Nat), x]) := ⟨by show 2 ≤ sizeLine; decide, [.int i tk, u2], .cons ⟨_, rfl⟩ (.cons ru .nil), ⟨_, hT2, rfl, _, rfl⟩⟩
    have I1 : Inv X pins σ (upd H s.heap.objs.size (.tup [.int (i : Nat), x])) { s with heap := h'', toks := tk + 1 } :=
      I.turnedNew (ch := [e, it]) (fun b o1 nb q => (sb.2 b fun z => nb (by simp [z])).trans (hk b o1 (fun z => nb (by simp [z])) (fun z => nb (by simp [z])) q)) hf (Nat.le_refl _) nok
    refine ⟨.ref s.heap.objs.size, _, I1, rfl, ⟨_, x, rfl, I.hok.fresh (Nat.le_refl _), rfl, fun ys hy => by rw [I.tuple_inj hy hq]; exact hx⟩, ⟨⟨u2, ?_⟩, hS.1.at fun o q => (sb.2 it (Ne.symm hne)).trans q, hne, hai, hae⟩, fun b hb => ?_⟩
    · rw [show ((i + 1 : Nat) : Int) = (i : Int) + 1 by omega]
      exact he'
    · have hb' : b < s.heap.objs.size := by
        rcases (by simpa using hb : b = e ∨ b = it) with rfl | rfl
        · exact hel
        · exact hil
      rw [upd_ne (Nat.ne_of_lt hb')]
      exact (hf b hb).1
  done := by
    intro X hP hw hK hc i pins s σ H E I hf st hg
    subst hP hw hK
    obtain ⟨⟨old, he⟩, hit, hne, hai, hae⟩ := st
    obtain ⟨xs, hq, hx⟩ := hg
    obtain ⟨its, rv, p, hz⟩ := I.tuple hq
    obtain ⟨f0, f1, f2, f3, f4, f5⟩ := hf it (by simp)
    have hl := rv.length
    have hT : s.TypeIs (.ref e) "enumerate" := ⟨_, he, rfl⟩
    unfold pyNext
    refine wpAny_bind (wpAny_attempt (wpAny_callSpecial?_slot (name := Str.ofString "__next__") hT F.slot_enumerate_next (wpAny_call_entry F.slot_enumerate_next hT F.entry_enumerate_next ?_ (F.args_enumerate_next_1 _))))
    show wpAny _ _ (field (.ref e) 2 >>= _) _ _ _
    refine wpAny_bind (wpAny_field he rfl (x := .ref it) rfl ?_)
    refine wpAny_bind (wpAny_nextOf_tuple_end (A := X.A.in1) (I.ok.hd hc) hit p (by simp; omega) fun h' y eb hy => ?_)
    obtain ⟨o, ho, hcl⟩ := hy
    refine wpAny_bind (wpAny_isInstance (T := "StopIteration") (b := true) ⟨o, ho, hcl⟩ isSubtype_stop (wpAny_pure ?_))
    exact ⟨rfl, I.turned (t' := s.toks) (fun b o hb q => eb b o hb q) f0 f1 f3 f4 f5⟩
  self := fun A i s Q E st h => let ⟨⟨_, he⟩, _⟩ := st; wpAny_pyIter_enum he h
def iEnumT (K : PySem.W.Frag) (ta : TA) : TI := fun σ H R => ta σ H fun vs H1 => ∃ a xs, vs = [.ref a] ∧ SqT K H1 a xs ∧ R (IteT K a) H1
theorem pi_enumT {X : Cx} {e : Expr} {ta : TA} {p pos tpos : Pos} {elts : List Expr} {kk : Nat} (hg : Gl X "enumerate") (hm : X.mg "enumerate" = none) (ha : PA X [e] ta) (hs : starEach [e] X.env = [(false, eval e X.env)] := by rfl) :
    PI X (.Tuple elts kk tpos) (.Call (.Name "enumerate" p) [e] [] pos) (iEnumT X.K ta) := by
  refine ⟨fun pins s σ H R I h => ?_⟩
  refine Call_ (ld_blt I hg hm boot_enumerate (callWith_type1 (thn (ha.run pos pins s σ H _ I h) fun us s1 w1 => ?_) hs rfl))
  obtain ⟨vs, H1, I1, r1, a, xs, rfl, hq, q⟩ := w1
  cases r1 with
  | cons r rr =>
    cases rr
    cases r
    obtain ⟨its, rv, p', hz⟩ := I1.tuple hq
    have hal : a < s1.heap.objs.size := by obtain ⟨_, q, _⟩ := p'; exact Heap.lt_size q
    refine call_enumT p' fun h' he hit hsz hk => wpAny_pyIter_enum he ?_
    have I2 : Inv X pins σ H1 { s1 with heap := h' } := I1.kept (t' := s1.toks) hk
    refine ⟨s1.heap.objs.size + 1, [s1.heap.objs.size + 1, s1.heap.objs.size], _, _, H1, rfl, I2, turn_enumT a (s1.heap.objs.size + 1) s1.heap.objs.size, ⟨⟨.none, he⟩, hit, Nat.succ_ne_self _, Nat.ne_of_lt hal, Nat.ne_of_lt (Nat.lt_succ_of_lt hal)⟩, fun b hb => ?_, q⟩
    have hle : s1.heap.objs.size ≤ b := by
      rcases (by simpa using hb : b = s1.heap.objs.size + 1 ∨ b = s1.heap.objs.size) with rfl | rfl
      · exact Nat.le_add_right _ _
      · exact Nat.le_refl _
    exact I1.fpOk hle (I1.hok.fresh hle)
theorem walk_enumT {K : PySem.W.Frag} {a : Addr} {xs : List V} : Walk (IteT K a) xs.length (fun H => SqT K H a xs) (YPair (fun i => some (.int (i : Nat))) (fun i => xs[i]?)) := by
  refine ⟨fun i _ hi q => ⟨xs, xs[i], q, by simp [hi]⟩, fun _ q => ⟨xs, q, Nat.le_refl _⟩, fun i H v H' _ q ⟨T, x, h1, h2, h3, h4⟩ => ?_⟩
  exact ⟨T, .int (i : Nat), x, h1, h2, h3, rfl, h4 xs q⟩
theorem walkD_enumT {K : PySem.W.Frag} {Z : Hp} {a : Addr} {vs : List V} {ds : List D} (h : SqT K Z a vs) (r : RpAll K Z vs ds) : WalkD K Z (IteT K a) (enumD 0 ds) :=
  ⟨_, _, by rw [enumD_length, ← r.length]; exact walk_enumT (K := K) (a := a) (xs := vs), fun H e => sqT_mono e h, fun i H x H' Z1 hi e e' y => by
    obtain ⟨T, u, v, rfl, hT, rfl, h1, h2⟩ := y
    cases h1
    obtain ⟨d, hd, rd⟩ := r.get' h2
    obtain ⟨Z', g, r'⟩ := pair_still e' hT (.int (i : Nat)) (rd.mono e)
    refine ⟨_, Z', enumD_get hd, g, ?_⟩
    rw [Nat.zero_add]
    exact r'⟩
def en2 (d : D) (ρ : Rho) : M (List D) := match d with
  | .list ds => .ok (enumD 0 ds) ρ
  | .tuple ds => .ok (enumD 0 ds) ρ
  | _ => .st
def oEnum (o : O D) : O (List D) := fun ρ => (o ρ).bind en2
section
variable {X : Cx} {G : Gm} {B : Wish} {e : Expr} {p pos tpos : Pos} {elts : List Expr} {kk : Nat}
theorem id_enum {o : O D} (hg : Gl X "enumerate") (hm : X.mg "enumerate" = none) (ha : PD X G B e o) (hs : starEach [e] X.env = [(false, eval e X.env)] := by rfl) (hs' : starEach [e] X.env = (false, eval e X.env) :: starEach [] X.env := by rfl) :
    ID X G B (.Tuple elts kk tpos) (.Call (.Name "enumerate" p) [e] [] pos) (oEnum o) := by
  refine pi_imp (pi_alt (pi_enum hg hm (pa_cons ha pa_nil hs') hs) (pi_enumT hg hm (pa_cons ha pa_nil hs') hs)) ?_
  rintro σ H R ⟨Z, ρ, S, w⟩
  have w' : Post X.K G B _ σ Z ((o ρ).bind en2) _ := w
  cases ho : o ρ with
  | st => rw [ho] at w'; exact w'.elim
  | ex x ρ1 => rw [ho] at w'; exact .inl ⟨Z, ρ, S, by rw [ho]; exact w'⟩
  | ok d ρ1 =>
    rw [ho] at w'
    rw [M.bind_ok] at w'
    cases d with
    | list ds =>
      refine .inl ⟨Z, ρ, S, ?_⟩
      rw [ho]
      intro v Z1 H1 e1 S1 r1
      have r1' : Rp X.K Z1 v (.list ds) := r1
      cases r1' with
      | lst a1 a2 => exact ⟨_, _, rfl, SqL.of (S1.zh _ _ a1), w' _ Z1 H1 e1 S1 (walkD_enum (SqL.of a1) a2)⟩
    | tuple ds =>
      refine .inr ⟨Z, ρ, S, ?_⟩
      rw [ho]
      intro v Z1 H1 e1 S1 r1
      have r1' : Rp X.K Z1 v (.tuple ds) := r1
      cases r1' with
      | tup a1 a2 => exact ⟨_, _, rfl, SqT.of (S1.zh _ _ a1), w' _ Z1 H1 e1 S1 (walkD_enumT (SqT.of a1) a2)⟩
    | _ => exact w'.elim
end
section
variable (z : Sl) (ρ : Rho)
@[simp] theorem ap_enum (o : O D) : oEnum o (z :: ρ) = (o (z :: ρ)).bind en2 := rfl
@[simp] theorem en2_l (ds : List D) : en2 (.list ds) ρ = .ok (enumD 0 ds) ρ := rfl
@[simp] theorem en2_t (ds : List D) : en2 (.tuple ds) ρ = .ok (enumD 0 ds) ρ := rfl
end
end Ow
namespace Ow
open PySem L2
/-! ### lists of own lists: at most one slot holds one -/
def cutAl (i : Nat) : Rho → Rho
  | [] => []
  | .al k j :: ρ => (if k = i then Sl.no else .al k j) :: cutAl i ρ
  | s :: ρ => s :: cutAl i ρ
@[simp] theorem cutAl_nil (i : Nat) : cutAl i [] = [] := rfl
@[simp] theorem cutAl_al (i k j : Nat) (ρ : Rho) : cutAl i (.al k j :: ρ) = (if k = i then Sl.no else .al k j) :: cutAl i ρ := rfl
@[simp] theorem cutAl_no (i : Nat) (ρ : Rho) : cutAl i (.no :: ρ) = .no :: cutAl i ρ := rfl
@[simp] theorem cutAl_pu (i : Nat) (d : D) (ρ : Rho) : cutAl i (.pu d :: ρ) = .pu d :: cutAl i ρ := rfl
@[simp] theorem cutAl_ow (i : Nat) (p : Bool) (c : Ct) (ρ : Rho) : cutAl i (.ow p c :: ρ) = .ow p c :: cutAl i ρ := rfl
@[simp] theorem cutAl_ll (i : Nat) (c : Nt) (ρ : Rho) : cutAl i (.ll c :: ρ) = .ll c :: cutAl i ρ := rfl
theorem cutAl_length (i : Nat) : ∀ ρ : Rho, (cutAl i ρ).length = ρ.length
  | [] => rfl
  | .no :: ρ => by simp [cutAl_length i ρ]
  | .pu d :: ρ => by simp [cutAl_length i ρ]
  | .ow p c :: ρ => by simp [cutAl_length i ρ]
  | .ll c :: ρ => by simp [cutAl_length i ρ]
  | .al k j :: ρ => by simp [cutAl_length i ρ]
def notAl (s : Sl) : Bool := match s with
  | .al _ _ => false
  | _ => true
theorem cutAl_get (i : Nat) {s : Sl} (h : notAl s = true) (hn : s ≠ .no) : ∀ (ρ : Rho) (j : Nat), (cutAl i ρ)[j]? = some s ↔ ρ[j]? = some s
  | [], j => by simp
  | t :: ρ, 0 => by
    cases t with
    | al k m =>
      rw [cutAl_al]
      simp only [List.getElem?_cons_zero, Option.some.injEq]
      constructor
      · intro e
        split at e
        · exact absurd e.symm hn
        · subst e; cases h
      · intro e; subst e; cases h
    | _ => simp
  | t :: ρ, j + 1 => by
    have ih := cutAl_get i h hn ρ j
    cases t <;> simpa using ih
theorem cutAl_al_get (i : Nat) {k m : Nat} : ∀ (ρ : Rho) (j : Nat), (cutAl i ρ)[j]? = some (.al k m) → ρ[j]? = some (.al k m) ∧ k ≠ i
  | [], j => by simp
  | t :: ρ, 0 => by
    cases t with
    | al k' m' =>
      rw [cutAl_al]
      simp only [List.getElem?_cons_zero, Option.some.injEq]
      intro e
      split at e
      · cases e
      · cases e; exact ⟨rfl, ‹_›⟩
    | _ => simp
  | t :: ρ, j + 1 => by
    have ih := cutAl_al_get i (k := k) (m := m) ρ j
    cases t <;> simpa using ih
def noLL : Rho → Bool
  | [] => true
  | .ll _ :: _ => false
  | _ :: ρ => noLL ρ
@[simp] theorem noLL_nil : noLL [] = true := rfl
@[simp] theorem noLL_al (k j : Nat) (ρ : Rho) : noLL (.al k j :: ρ) = noLL ρ := rfl
@[simp] theorem noLL_no (ρ : Rho) : noLL (.no :: ρ) = noLL ρ := rfl
@[simp] theorem noLL_pu (d : D) (ρ : Rho) : noLL (.pu d :: ρ) = noLL ρ := rfl
@[simp] theorem noLL_ow (p : Bool) (c : Ct) (ρ : Rho) : noLL (.ow p c :: ρ) = noLL ρ := rfl
@[simp] theorem noLL_ll (c : Nt) (ρ : Rho) : noLL (.ll c :: ρ) = false := rfl
theorem noLL_get : ∀ {ρ : Rho}, noLL ρ = true → ∀ (j : Nat) n, ρ[j]? ≠ some (Sl.ll n)
  | [], _, j, xss => by simp
  | t :: ρ, h, 0, xss => by intro e; simp at e; subst e; cases h
  | t :: ρ, h, j + 1, xss => by
    have ih := noLL_get (ρ := ρ) (by cases t <;> first | exact h | cases h) j xss
    simpa using ih
/-! heaps that stand where F says -/
open Classical in
noncomputable def ovl (Z : Hp) (fs : List Addr) (H : Hp) : Hp := fun c => if c ∈ fs then H c else Z c
theorem ovl_in {Z H : Hp} {fs : List Addr} {c : Addr} (h : c ∈ fs) : ovl Z fs H c = H c := by unfold ovl; rw [if_pos h]
theorem ovl_out {Z H : Hp} {fs : List Addr} {c : Addr} (h : c ∉ fs) : ovl Z fs H c = Z c := by unfold ovl; rw [if_neg h]
theorem same_ovl {Z H : Hp} {fs : List Addr} (h : ∀ b ∈ fs, Z b = none) : Same Z (ovl Z fs H) := fun b o e => by
  rw [ovl_out]
  · exact e
  · intro hb; rw [h b hb] at e; cases e
noncomputable def Gm.gh (G : Gm) (fs : List Addr) (H : Hp) : Gm := { G with H0 := ovl G.H0 fs H }
section
variable {K : PySem.W.Frag} {G : Gm} {Z Z' : Hp} {ρ ρ' : Rho} {σ : St} {H H' : Hp} {fs : List Addr} {k : Nat} {xss : List (List D)} {a : Addr} {bs : List Addr}
/-- what is known of things beside the slots -/
structure FP (K : PySem.W.Frag) (G : Gm) (Z : Hp) (ρ : Rho) (σ : St) (H : Hp) (fs : List Addr) : Prop where
  o : ∀ b ∈ fs, ∃ o, H b = some o
  z : ∀ b ∈ fs, Z b = none
  g : ∀ b ∈ fs, G.H0 b = none
  n : ∀ b ∈ fs, NewA ρ σ H b
theorem Sim.toGh (S : Sim K G Z ρ σ H) (F : FP K G Z ρ σ H fs) : Sim K (G.gh fs H) Z ρ σ H where
  zz := S.zz
  zh := S.zh
  fr := fun b u e l => by
    by_cases hb : b ∈ fs
    · have e' : ovl G.H0 fs H b = some u := e
      rw [ovl_in hb] at e'
      exact e'
    · have e' : ovl G.H0 fs H b = some u := e
      rw [ovl_out hb] at e'
      exact S.fr b u e' l
  nw := fun b u e => by
    rcases S.nw b u e with q | q
    · exact .inl q
    · refine .inr ?_
      show ovl G.H0 fs H b = none
      rw [ovl_out]
      · exact q
      · intro hb; rw [F.z b hb] at e; cases e
  pu := S.pu
  ow := fun i p c e => by
    obtain ⟨b, u, q, hu, r, zb, l, nb⟩ := S.ow i p c e
    refine ⟨b, u, q, hu, r, zb, l, fun hp => ?_⟩
    show ovl G.H0 fs H b = none
    rw [ovl_out]
    · exact nb hp
    · intro hb; exact (F.n b hb).1 i p c e q
  ne := S.ne
  pin := S.pin
  len := S.len
  lx := S.lx.frame (fun _ _ e => ⟨e, rfl⟩) (fun _ _ _ e => ⟨e, rfl⟩) (.refl _) fun b u f zb gn w hu => ⟨hu, zb, (by
    show ovl G.H0 fs H b = none
    rw [ovl_out]
    · exact gn
    · intro hb; exact (F.n b hb).2 f), w⟩
/-- what was known of them at the start -/
structure FS (G : Gm) (H1 : Hp) (fs : List Addr) : Prop where
  o : ∀ b ∈ fs, ∃ o, H1 b = some o
  g : ∀ b ∈ fs, G.H0 b = none
  z : ∀ b ∈ fs, G.Z0 b = none
  l : ∀ b ∈ fs, ¬ G.lent b
theorem Sim.fixed (S : Sim K G Z ρ σ H) (F : FP K G Z ρ σ H fs) : FS G H fs := ⟨F.o, F.g, fun b hb => none_of_same S.zz (F.z b hb), fun b hb => S.notLent (F.n b hb).1⟩
theorem Sim.ofGh {H1 : Hp} (S : Sim K (G.gh fs H1) Z ρ σ H) (F : FS G H1 fs) : Sim K G Z ρ σ H ∧ FP K G Z ρ σ H fs ∧ ∀ b ∈ fs, H b = H1 b := by
  have up : ∀ b, (G.gh fs H1).H0 b = none → G.H0 b = none := fun b e => by
    by_cases hb : b ∈ fs
    · exact F.g b hb
    · have e' : ovl G.H0 fs H1 b = none := e
      rw [ovl_out hb] at e'
      exact e'
  have nself : ∀ b ∈ fs, (G.gh fs H1).H0 b ≠ none := fun b hb e => by
    have e' : ovl G.H0 fs H1 b = none := e
    rw [ovl_in hb] at e'
    obtain ⟨o, ho⟩ := F.o b hb
    rw [ho] at e'
    cases e'
  have hh : ∀ b ∈ fs, H b = H1 b := fun b hb => by
    obtain ⟨o, ho⟩ := F.o b hb
    rw [ho]
    refine S.fr b o ?_ (F.l b hb)
    show ovl G.H0 fs H1 b = some o
    rw [ovl_in hb]
    exact ho
  refine ⟨⟨S.zz, S.zh, fun b u e l => S.fr b u ?_ l, fun b u e => (S.nw b u e).imp (fun q => q) (up b), S.pu, fun i p c e => ?_, S.ne, S.pin, S.len, S.lx.frame (fun _ _ e => ⟨e, rfl⟩) (fun _ _ _ e => ⟨e, rfl⟩) (.refl _) fun b u f zb gn w hu => ⟨hu, zb, up b gn, w⟩⟩, ⟨fun b hb => by rw [hh b hb]; exact F.o b hb, fun b hb => ?_, F.g, fun b hb => ⟨fun i p c e q => ?_, fun f => nself b hb (S.lx.live f).2.2.1⟩⟩, hh⟩
  · show ovl G.H0 fs H1 b = some u
    rw [ovl_out]
    · exact e
    · intro hb; rw [F.g b hb] at e; cases e
  · obtain ⟨b, u, q, hu, r, zb, l, nb⟩ := S.ow i p c e
    exact ⟨b, u, q, hu, r, zb, l, fun hp => up b (nb hp)⟩
  · cases e : Z b with
    | none => rfl
    | some u =>
      rcases S.nw b u e with q | q
      · have q' : G.Z0 b = some u := q
        rw [F.z b hb] at q'; cases q'
      · exact absurd q (nself b hb)
  · obtain ⟨b', u, q', hu, r, zb, l, nb⟩ := S.ow i p c e
    rw [q] at q'
    cases q'
    cases p with
    | true => exact F.l b hb (l rfl)
    | false => exact nself b hb (nb rfl)
/-- the slot is let go, its things stand beside -/
theorem Sim.dropN {n : Nt} {v : V} (S : Sim K G Z ρ σ H) (h : ρ[k]? = some (Sl.ll n)) (A : LLat K G Z ρ σ H k v fs n) : Sim K G Z ((cutAl k ρ).set k .no) σ H ∧ FP K G Z ((cutAl k ρ).set k .no) σ H fs := by
  have hk : k < ρ.length := (List.getElem?_eq_some_iff.mp h).1
  have hk' : k < (cutAl k ρ).length := by rw [cutAl_length]; exact hk
  have g : ∀ (j : Nat) s, ((cutAl k ρ).set k .no)[j]? = some s → notAl s = true → s ≠ .no → j ≠ k ∧ ρ[j]? = some s := fun j s e h1 h2 => by
    by_cases hj : j = k
    · subst hj; rw [List.getElem?_set_self hk'] at e; cases e; exact absurd rfl h2
    · rw [List.getElem?_set_ne (Ne.symm hj)] at e; exact ⟨hj, (cutAl_get k h1 h2 ρ j).mp e⟩
  have nl : ∀ (j : Nat) yss, ((cutAl k ρ).set k .no)[j]? ≠ some (Sl.ll yss) := fun j yss e => by
    obtain ⟨hj, e⟩ := g j _ e rfl (by simp)
    exact hj (S.lx.one j k _ _ e h)
  have hob : ∀ b ∈ fs, ∃ o, H b = some o := fun b hb => A.r.live hb
  refine ⟨⟨S.zz, S.zh, S.fr, S.nw, fun j d e => S.pu j d (g j _ e rfl (by simp)).2, fun j p c e => S.ow j p c (g j _ e rfl (by simp)).2, fun j m p q c d n e1 e2 => S.ne j m p q c d n (g j _ e1 rfl (by simp)).2 (g m _ e2 rfl (by simp)).2, fun j x hj => ?_, by rw [List.length_set, cutAl_length]; exact S.len, ⟨fun j yss e => absurd e (nl j yss), fun j m yss zss e _ => absurd e (nl j yss), fun j m r yss _ e => absurd e (nl m yss)⟩⟩, ⟨hob, A.z, A.g, fun b hb => ⟨fun j p c e => A.w b hb j p c (g j _ e rfl (by simp)).2, fun ⟨j, yss, _, _, e, _⟩ => nl j yss e⟩⟩⟩
  obtain ⟨q, c', hc'⟩ := S.pin j x hj
  refine ⟨q, c', ?_⟩
  rw [List.getElem?_set_ne]
  · exact (cutAl_get k rfl (by simp) ρ j).mpr hc'
  · intro e; subst e; rw [h] at hc'; cases hc'
theorem Sim.dropLL (S : Sim K G Z ρ σ H) (h : ρ[k]? = some (Sl.ll (.li xss))) (A : LLa K G Z ρ σ H k a bs xss) : Sim K G Z ((cutAl k ρ).set k .no) σ H ∧ FP K G Z ((cutAl k ρ).set k .no) σ H (a :: bs) := S.dropN h A.at
/-- .. and taken back -/
theorem Sim.putN {n : Nt} {v : V} (S : Sim K G Z ρ σ H) (h : ρ[k]? = some Sl.no) (nl : noLL ρ = true) (hs : σ[k]? = some (some v)) (r : NR (RpAll K Z) H v n fs) (nd : fs.Nodup) (F : FP K G Z ρ σ H fs) : Sim K G Z ((cutAl k ρ).set k (.ll n)) σ H := by
  have hk : k < ρ.length := (List.getElem?_eq_some_iff.mp h).1
  have hk' : k < (cutAl k ρ).length := by rw [cutAl_length]; exact hk
  have g : ∀ (j : Nat) s, ((cutAl k ρ).set k (.ll n))[j]? = some s → notAl s = true → s ≠ .no → (∀ yss, s ≠ .ll yss) → j ≠ k ∧ ρ[j]? = some s := fun j s e h1 h2 h3 => by
    by_cases hj : j = k
    · subst hj; rw [List.getElem?_set_self hk'] at e; cases e; exact absurd rfl (h3 _)
    · rw [List.getElem?_set_ne (Ne.symm hj)] at e; exact ⟨hj, (cutAl_get k h1 h2 ρ j).mp e⟩
  have gl : ∀ (j : Nat) yss, ((cutAl k ρ).set k (.ll n))[j]? = some (Sl.ll yss) → j = k ∧ yss = n := fun j yss e => by
    by_cases hj : j = k
    · subst hj; rw [List.getElem?_set_self hk'] at e; cases e; exact ⟨rfl, rfl⟩
    · rw [List.getElem?_set_ne (Ne.symm hj)] at e
      exact absurd ((cutAl_get k rfl (by simp) ρ j).mp e) (noLL_get nl j yss)
  refine ⟨S.zz, S.zh, S.fr, S.nw, fun j d e => S.pu j d (g j _ e rfl (by simp) (by simp)).2, fun j p c e => S.ow j p c (g j _ e rfl (by simp) (by simp)).2, fun j m p q c d nn e1 e2 => S.ne j m p q c d nn (g j _ e1 rfl (by simp) (by simp)).2 (g m _ e2 rfl (by simp) (by simp)).2, fun j x hj => ?_, by rw [List.length_set, cutAl_length]; exact S.len, ⟨fun j yss e => ?_, fun j m yss zss e1 e2 => by rw [(gl j yss e1).1, (gl m zss e2).1], fun j m r' yss e1 e2 => ?_⟩⟩
  · obtain ⟨q, c', hc'⟩ := S.pin j x hj
    refine ⟨q, c', ?_⟩
    rw [List.getElem?_set_ne]
    · exact (cutAl_get k rfl (by simp) ρ j).mpr hc'
    · intro e; subst e; rw [h] at hc'; cases hc'
  · obtain ⟨rfl, rfl⟩ := gl j yss e
    exact ⟨v, fs, hs, r, nd, F.z, F.g, fun b hb m p c e => (F.n b hb).1 m p c (g m _ e rfl (by simp) (by simp)).2⟩
  · obtain ⟨rfl, rfl⟩ := gl m yss e2
    by_cases hj : j = m
    · subst hj; rw [List.getElem?_set_self hk'] at e1; cases e1
    · rw [List.getElem?_set_ne (Ne.symm hj)] at e1
      exact absurd rfl (cutAl_al_get m ρ j e1).2
theorem Sim.putLL (S : Sim K G Z ρ σ H) (h : ρ[k]? = some Sl.no) (nl : noLL ρ = true) (hs : σ[k]? = some (some (V.ref a))) (ha : H a = some (.lst (bs.map V.ref)))
    (hp : Paired (fun b xs => ∃ vs, H b = some (.lst vs) ∧ RpAll K Z vs xs) bs xss) (nd : (a :: bs).Nodup) (F : FP K G Z ρ σ H (a :: bs)) : Sim K G Z ((cutAl k ρ).set k (.ll (.li xss))) σ H := S.putN h nl hs (.li ha hp) nd F
theorem paired_set {α β : Type} {P : α → β → Prop} : ∀ {l : List α} {m : List β} (j : Nat) {a : α} {b : β}, Paired P l m → l[j]? = some a → P a b → Paired P l (m.set j b)
  | _, _, _, _, _, .nil, e, _ => by simp at e
  | _, _, 0, _, _, .cons _ r, e, f => by simp at e; subst e; exact .cons f r
  | _, _, j + 1, _, _, .cons h r, e, f => .cons h (paired_set j r (by simpa using e) f)
/-- one of the lists is written -/
theorem Sim.writeLL (S : Sim K G Z ρ σ H) (h : ρ[k]? = some (Sl.ll (.li xss))) (A : LLa K G Z ρ σ H k a bs xss) {j : Nat} {b : Addr} (hb : bs[j]? = some b) {vs : List V} {ds : List D} (r : RpAll K Z vs ds) :
    Sim K G Z (ρ.set k (.ll (.li (xss.set j ds)))) σ (upd H b (.lst vs)) ∧ LLa K G Z (ρ.set k (.ll (.li (xss.set j ds)))) σ (upd H b (.lst vs)) k a bs (xss.set j ds) := by
  have hk : k < ρ.length := (List.getElem?_eq_some_iff.mp h).1
  have mb : b ∈ bs := List.mem_of_getElem? hb
  have mb' : b ∈ a :: bs := List.mem_cons_of_mem _ mb
  have hab : a ≠ b := fun e => by subst e; exact (List.nodup_cons.mp A.nd).1 mb
  have g : ∀ (i : Nat) t, (ρ.set k (.ll (.li (xss.set j ds))))[i]? = some t → (i = k ∧ t = .ll (.li (xss.set j ds))) ∨ (i ≠ k ∧ ρ[i]? = some t) := fun i t e => by
    by_cases hi : i = k
    · subst hi; rw [List.getElem?_set_self hk] at e; cases e; exact .inl ⟨rfl, rfl⟩
    · rw [List.getElem?_set_ne (Ne.symm hi)] at e; exact .inr ⟨hi, e⟩
  have hp : Paired (fun c xs => ∃ vs', (upd H b (.lst vs)) c = some (.lst vs') ∧ RpAll K Z vs' xs) bs (xss.set j ds) := by
    have nd := (List.nodup_cons.mp A.nd).2
    have gen : ∀ {l : List Addr} {m : List (List D)} (j : Nat), Paired (fun c xs => ∃ vs', H c = some (.lst vs') ∧ RpAll K Z vs' xs) l m → l.Nodup → l[j]? = some b → Paired (fun c xs => ∃ vs', (upd H b (.lst vs)) c = some (.lst vs') ∧ RpAll K Z vs' xs) l (m.set j ds) := by
      intro l m j q
      induction q generalizing j with
      | nil => intro _ e; simp at e
      | cons hx rest ih =>
        rename_i c xs l' m'
        intro nd e
        obtain ⟨n1, n2⟩ := List.nodup_cons.mp nd
        cases j with
        | zero =>
          simp at e
          subst e
          refine .cons ⟨vs, upd_same, r⟩ (paired_imp rest fun d ys hd ⟨vs', w1, w2⟩ => ⟨vs', by rw [upd_ne]; exact w1; intro e; subst e; exact n1 hd, w2⟩)
        | succ j =>
          have e' : l'[j]? = some b := by simpa using e
          obtain ⟨vs', w1, w2⟩ := hx
          refine .cons ⟨vs', by rw [upd_ne]; exact w1; intro e; subst e; exact n1 (List.mem_of_getElem? e'), w2⟩ (ih j n2 e')
    exact gen j A.p nd hb
  have L : LLa K G Z (ρ.set k (.ll (.li (xss.set j ds)))) σ (upd H b (.lst vs)) k a bs (xss.set j ds) := ⟨A.s, by rw [upd_ne hab]; exact A.h, hp, A.nd, A.z, A.g, fun c hc i p t e => by
    rcases g i _ e with ⟨_, e'⟩ | ⟨_, e⟩
    · cases e'
    · exact A.w c hc i p t e⟩
  refine ⟨⟨S.zz, fun c u e => ?_, fun c u e nl => ?_, S.nw, fun i d e => ?_, fun i q d e => ?_, fun i m q q' c1 d n1 e1 e2 => ?_, fun i x hi => ?_, by rw [List.length_set]; exact S.len, ⟨fun i yss e => ?_, fun i m yss zss e1 e2 => ?_, fun i m t yss e1 e2 a' bs' h1 h2 => ?_⟩⟩, L⟩
  · rw [upd_ne (ne_of_none e (A.z b mb'))]; exact S.zh _ _ e
  · rw [upd_ne (ne_of_none e (A.g b mb'))]; exact S.fr c u e nl
  · rcases g i _ e with ⟨_, e'⟩ | ⟨_, e⟩
    · cases e'
    · exact S.pu i d e
  · rcases g i _ e with ⟨_, e'⟩ | ⟨_, e⟩
    · cases e'
    · obtain ⟨c, u, q1, hu, r1⟩ := S.ow i q d e
      refine ⟨c, u, q1, ?_, r1⟩
      rw [upd_ne]
      · exact hu
      · intro e'; subst e'; exact A.w _ mb' i _ _ e q1
  · rcases g i _ e1 with ⟨_, e'⟩ | ⟨_, e1⟩
    · cases e'
    · rcases g m _ e2 with ⟨_, e'⟩ | ⟨_, e2⟩
      · cases e'
      · exact S.ne i m _ _ _ _ n1 e1 e2
  · obtain ⟨q, c1, hc1⟩ := S.pin i x hi
    refine ⟨q, c1, ?_⟩
    rw [List.getElem?_set_ne]
    · exact hc1
    · intro e; subst e; rw [h] at hc1; cases hc1
  · rcases g i _ e with ⟨rfl, e'⟩ | ⟨hi, e⟩
    · cases e'; exact ⟨_, _, L.at⟩
    · exact absurd (S.lx.one i k _ _ e h) hi
  · have : i = k := by
      rcases g i _ e1 with ⟨rfl, _⟩ | ⟨hi, e1⟩
      · rfl
      · exact S.lx.one i k _ _ e1 h
    have : m = k := by
      rcases g m _ e2 with ⟨rfl, _⟩ | ⟨hi, e2⟩
      · rfl
      · exact S.lx.one m k _ _ e2 h
    omega
  · have hm : m = k := by
      rcases g m _ e2 with ⟨rfl, _⟩ | ⟨hi, e2⟩
      · rfl
      · exact S.lx.one m k _ _ e2 h
    subst hm
    rcases g i _ e1 with ⟨_, e'⟩ | ⟨hi, e1⟩
    · cases e'
    · have ea : a' = a := by have := h1.symm.trans A.s; cases this; rfl
      subst ea
      rw [upd_ne hab] at h2
      exact S.lx.al i m t _ e1 h a' bs' h1 h2
/-- a frozen list of own lists -/
theorem rp_lists {K : PySem.W.Frag} {Z : Hp} : ∀ {bs : List Addr} {xss : List (List D)}, Paired (fun b xs => ∃ vs, Z b = some (.lst vs) ∧ RpAll K Z vs xs) bs xss → RpAll K Z (bs.map V.ref) (xss.map PyData.list)
  | _, _, .nil => .nil
  | _, _, .cons ⟨vs, h1, h2⟩ r => .cons (.lst h1 h2) (rp_lists r)
abbrev dcD (ds : List (D × D)) : D := .dict ((.bool false, .none) :: ds)
def ntD : Nt → D
  | .li xss => .list (xss.map PyData.list)
  | .dd kvs => dcD (kvs.map fun m => (keyD m.1, dcD (m.2.map fun x => (keyD x.1, .list x.2))))
theorem rp_kls {K : PySem.W.Frag} {Z : Hp} : ∀ {bs : List (Key × Addr)} {xss : List (Key × List D)}, Paired (fun (q : Key × Addr) (x : Key × List D) => q.1 = x.1 ∧ ∃ vs, Z q.2 = some (.lst vs) ∧ RpAll K Z vs x.2) bs xss → RpKvs K Z (bs.map fun q => (q.1, V.ref q.2)) (xss.map fun x => (keyD x.1, .list x.2))
  | _, _, .nil => .nil
  | _, _, .cons ⟨e, vs, h1, h2⟩ r => .cons (by rw [e]) (.lst h1 h2) (rp_kls r)
theorem rp_dds {K : PySem.W.Frag} {Z : Hp} : ∀ {A : List (Key × Addr × List (Key × Addr))} {kvs : List (Key × List (Key × List D))}, Paired (fun (t : Key × Addr × List (Key × Addr)) (m : Key × List (Key × List D)) => t.1 = m.1 ∧ Z t.2.1 = some (.dK (t.2.2.map fun q => (q.1, V.ref q.2))) ∧ Paired (fun (q : Key × Addr) (x : Key × List D) => q.1 = x.1 ∧ ∃ vs, Z q.2 = some (.lst vs) ∧ RpAll K Z vs x.2) t.2.2 m.2) A kvs →
    RpKvs K Z (A.map fun t => (t.1, V.ref t.2.1)) (kvs.map fun m => (keyD m.1, dcD (m.2.map fun x => (keyD x.1, .list x.2))))
  | _, _, .nil => .nil
  | _, _, .cons ⟨e, h1, h2⟩ r => .cons (by rw [e]) (.dct h1 (rp_kls h2)) (rp_dds r)
theorem rp_nt {K : PySem.W.Frag} {Z Z' H : Hp} {v : V} {n : Nt} {fs : List Addr} (r : NR (RpAll K Z) H v n fs) (e : Same Z Z') (h : ∀ b ∈ fs, ∀ o, H b = some o → Z' b = some o) : Rp K Z' v (ntD n) := by
  have r' : NR (RpAll K Z') Z' v n fs := r.mono (fun _ _ q => q.mono e) h
  cases r' with
  | li h1 h2 => exact .lst h1 (rp_lists h2)
  | dd h1 h2 => exact .dct h1 (rp_dds h2)
theorem Sim.freezeN {n : Nt} (S : Sim K G Z ρ σ H) (h : ρ[k]? = some (Sl.ll n)) : ∃ v Z', σ[k]? = some (some v) ∧ Same Z Z' ∧ Rp K Z' v (ntD n) ∧ Sim K G Z' ((cutAl k ρ).set k (.pu (ntD n))) σ H := by
  obtain ⟨v, fs, A⟩ := S.lx.ll k _ h
  obtain ⟨S1, F⟩ := S.dropN h A
  have hk : k < ρ.length := (List.getElem?_eq_some_iff.mp h).1
  have hk' : k < (cutAl k ρ).length := by rw [cutAl_length]; exact hk
  have e1 : Same Z (ovl Z fs H) := same_ovl A.z
  have R : Rp K (ovl Z fs H) v (ntD n) := rp_nt A.r e1 fun b hb o ho => by rw [ovl_in hb]; exact ho
  have g : ∀ (j : Nat) s, ((cutAl k ρ).set k (.pu (ntD n)))[j]? = some s → (j = k ∧ s = .pu (ntD n)) ∨ (j ≠ k ∧ ((cutAl k ρ).set k .no)[j]? = some s) := fun j s e => by
    by_cases hj : j = k
    · subst hj; rw [List.getElem?_set_self hk'] at e; cases e; exact .inl ⟨rfl, rfl⟩
    · rw [List.getElem?_set_ne (Ne.symm hj)] at e ⊢; exact .inr ⟨hj, e⟩
  have nz : ∀ b o, (ovl Z fs H) b = some o → b ∉ fs → Z b = some o := fun b o e hb => by rw [ovl_out hb] at e; exact e
  refine ⟨v, ovl Z fs H, A.s, e1, R, ⟨S1.zz.trans e1, fun b u e => ?_, S1.fr, fun b u e => ?_, fun j d e => ?_, fun j p c e => ?_, fun j m p q c d nn x1 x2 => ?_, fun j x hj => ?_, by rw [List.length_set, cutAl_length]; exact S.len, ?_⟩⟩
  · by_cases hb : b ∈ fs
    · rw [ovl_in hb] at e; exact e
    · exact S1.zh _ _ (nz b u e hb)
  · by_cases hb : b ∈ fs
    · exact .inr (A.g b hb)
    · exact S1.nw _ _ (nz b u e hb)
  · rcases g j _ e with ⟨rfl, e'⟩ | ⟨hj, e⟩
    · cases e'; exact ⟨_, A.s, R⟩
    · obtain ⟨v', q, r⟩ := S1.pu j d e; exact ⟨v', q, r.mono e1⟩
  · rcases g j _ e with ⟨_, e'⟩ | ⟨hj, e⟩
    · cases e'
    · obtain ⟨b, u, q, hu, r, z, l⟩ := S1.ow j p c e
      refine ⟨b, u, q, hu, r.mono e1, ?_, l⟩
      rw [ovl_out]
      · exact z
      · intro hb; exact (F.n b hb).1 j p c e q
  · rcases g j _ x1 with ⟨_, e'⟩ | ⟨_, x1⟩
    · cases e'
    · rcases g m _ x2 with ⟨_, e'⟩ | ⟨_, x2⟩
      · cases e'
      · exact S1.ne j m p q c d nn x1 x2
  · obtain ⟨q, c, hc⟩ := S1.pin j x hj
    refine ⟨q, c, ?_⟩
    by_cases hj' : j = k
    · subst hj'; rw [List.getElem?_set_self hk'] at hc; cases hc
    · rw [List.getElem?_set_ne (Ne.symm hj')] at hc ⊢; exact hc
  · have nl : ∀ (j : Nat) yss, ((cutAl k ρ).set k (.pu (ntD n)))[j]? ≠ some (Sl.ll yss) := fun j yss e => by
      by_cases hj : j = k
      · subst hj; rw [List.getElem?_set_self hk'] at e; cases e
      · rw [List.getElem?_set_ne (Ne.symm hj)] at e
        exact hj (S.lx.one j k _ _ ((cutAl_get k rfl (by simp) ρ j).mp e) h)
    exact ⟨fun j yss e => absurd e (nl j yss), fun j m yss zss e _ => absurd e (nl j yss), fun j m r yss _ e => absurd e (nl m yss)⟩
theorem Sim.freezeLL (S : Sim K G Z ρ σ H) (h : ρ[k]? = some (Sl.ll (.li xss))) : ∃ a Z', σ[k]? = some (some (V.ref a)) ∧ Same Z Z' ∧ Rp K Z' (.ref a) (.list (xss.map PyData.list)) ∧ Sim K G Z' ((cutAl k ρ).set k (.pu (.list (xss.map PyData.list)))) σ H := by
  obtain ⟨v, Z', h1, h2, h3, h4⟩ := S.freezeN h
  obtain ⟨a, bs, A⟩ := S.lx.lla h
  have hv : v = .ref a := by have := h1.symm.trans A.s; cases this; rfl
  subst hv
  exact ⟨a, Z', h1, h2, h3, h4⟩
/-- a slot that comes to mean one of the lists -/
theorem Sim.putAl {i j : Nat} {b : Addr} (S : Sim K G Z ρ σ H) (h : ρ[k]? = some (Sl.ll (.li xss))) (A : LLa K G Z ρ σ H k a bs xss) (hb : bs[j]? = some b) (hik : i ≠ k) (hi : setSl ρ i (.al k j) = some ρ') : Sim K G Z ρ' (σ.set i (some (V.ref b))) H := by
  have e0 : ∃ s0, ρ[i]? = some s0 ∧ (∀ c, s0 ≠ .ow true c) ∧ ρ' = ρ.set i (.al k j) := by
    unfold setSl at hi
    split at hi
    · cases hi
    · rename_i s0 hp h0; cases hi; exact ⟨s0, h0, fun c e => hp c e, rfl⟩
    · cases hi
  obtain ⟨s0, h0, hp0, rfl⟩ := e0
  have hl : i < ρ.length := (List.getElem?_eq_some_iff.mp h0).1
  have hl' : i < σ.length := by rw [← S.len]; exact hl
  have h1 : setSl ρ i .no = some (ρ.set i .no) := by
    unfold setSl
    rw [h0]
    cases s0 with
    | ow p c => cases p <;> first | rfl | exact absurd rfl (hp0 c)
    | _ => rfl
  have S1 := S.put (v := .ref b) h1 trivial
  have g : ∀ (m : Nat) t, (ρ.set i (.al k j))[m]? = some t → (m = i ∧ t = .al k j) ∨ (m ≠ i ∧ ρ[m]? = some t ∧ (ρ.set i .no)[m]? = some t) := fun m t e => by
    by_cases hm : m = i
    · subst hm; rw [List.getElem?_set_self hl] at e; cases e; exact .inl ⟨rfl, rfl⟩
    · rw [List.getElem?_set_ne (Ne.symm hm)] at e; exact .inr ⟨hm, e, by rw [List.getElem?_set_ne (Ne.symm hm)]; exact e⟩
  have gs : ∀ m : Nat, m ≠ i → (σ.set i (some (V.ref b)))[m]? = σ[m]? := fun m hm => by rw [List.getElem?_set_ne (Ne.symm hm)]
  refine ⟨S1.zz, S1.zh, S1.fr, S1.nw, fun m d e => ?_, fun m p c e => ?_, fun m n p q c d hn e1 e2 => ?_, fun m x hm => ?_, by rw [List.length_set, List.length_set]; exact S.len, ⟨fun m yss e => ?_, fun m n yss zss e1 e2 => ?_, fun m n t yss e1 e2 a' bs' h3 h4 => ?_⟩⟩
  · rcases g m _ e with ⟨_, e'⟩ | ⟨_, _, e⟩
    · cases e'
    · exact S1.pu m d e
  · rcases g m _ e with ⟨_, e'⟩ | ⟨_, _, e⟩
    · cases e'
    · exact S1.ow m p c e
  · rcases g m _ e1 with ⟨_, e'⟩ | ⟨_, _, e1⟩
    · cases e'
    · rcases g n _ e2 with ⟨_, e'⟩ | ⟨_, _, e2⟩
      · cases e'
      · exact S1.ne m n p q c d hn e1 e2
  · obtain ⟨q, c, hc⟩ := S1.pin m x hm
    refine ⟨q, c, ?_⟩
    by_cases hm' : m = i
    · subst hm'; rw [List.getElem?_set_self hl] at hc; cases hc
    · rw [List.getElem?_set_ne (Ne.symm hm')] at hc ⊢; exact hc
  · rcases g m _ e with ⟨_, e'⟩ | ⟨_, _, e⟩
    · cases e'
    · obtain ⟨v', fs', A'⟩ := S1.lx.ll m yss e
      refine ⟨v', fs', A'.s, A'.r, A'.nd, A'.z, A'.g, fun c hc n p t e2 => ?_⟩
      rcases g n _ e2 with ⟨_, e'⟩ | ⟨_, _, e2⟩
      · cases e'
      · exact A'.w c hc n p t e2
  · rcases g m _ e1 with ⟨_, e'⟩ | ⟨_, _, e1⟩
    · cases e'
    · rcases g n _ e2 with ⟨_, e'⟩ | ⟨_, _, e2⟩
      · cases e'
      · exact S1.lx.one m n _ _ e1 e2
  · rcases g n _ e2 with ⟨_, e'⟩ | ⟨hn, e2, e2'⟩
    · cases e'
    · rcases g m _ e1 with ⟨rfl, e'⟩ | ⟨hm, e1, e1'⟩
      · cases e'
        rw [gs _ hn] at h3
        have ea : a' = a := by have := h3.symm.trans A.s; cases this; rfl
        subst ea
        have eb : bs' = bs := by
          have := h4.symm.trans A.h
          injection this with this
          injection this with this
          exact refs_inj this
        subst eb
        exact ⟨b, hb, List.getElem?_set_self hl'⟩
      · exact S1.lx.al m n t yss e1' e2' a' bs' h3 h4
end
end Ow
namespace Ow
open PySem L2
/-! ### rules for a list of own lists -/
def oFrzLL (k : Nat) : O D := fun ρ => match ρ[k]? with
  | some (.ll (.li xss)) => .ok (.list (xss.map PyData.list)) ((cutAl k ρ).set k (.pu (.list (xss.map PyData.list))))
  | _ => .st
def oLenLL (k : Nat) : O D := fun ρ => match ρ[k]? with
  | some (.ll (.li xss)) => .ok (.int xss.length) ρ
  | _ => .st
def appLL2 (k j : Nat) (xss : List (List D)) (m : M D) : M D := match m with
  | .ok d ρ2 => match ρ2[k]?, noLL ρ2, xss[j]? with
    | some .no, true, some xs => if xs.length < 16000000 then .ok .none ((cutAl k ρ2).set k (.ll (.li (xss.set j (xs ++ [d]))))) else .st
    | _, _, _ => .st
  | _ => .st
def appLL1 (k : Nat) (oe : O D) (i : D) (ρ1 : Rho) : M D := match ρ1[k]?, i with
  | some (.ll (.li xss)), .int n => match ixN xss.length n with
    | some j => appLL2 k j xss (oe ((cutAl k ρ1).set k .no))
    | none => .st
  | _, _ => .st
def oAppLL (k : Nat) (oi oe : O D) : O D := fun ρ => match ρ[k]? with
  | some (.ll (.li _)) => (oi ρ).bind (appLL1 k oe)
  | _ => .st
def alias1 (i k : Nat) (d : D) (ρ1 : Rho) : Mo := match ρ1[k]?, d with
  | some (.ll (.li xss)), .int n => match ixN xss.length n with
    | some j => if i ≠ k then nx1 (setSl ρ1 i (.al k j)) else .st
    | none => .st
  | _, _ => .st
def oAlias (i k : Nat) (oi : O D) : Os := fun ρ => match ρ[k]? with
  | some (.ll (.li _)) => (oi ρ).bindS (alias1 i k)
  | _ => .st
def alK1 (i : Nat) (f : Ct → List D → Option (Ct × D)) (ds : List D) (ρ : Rho) : M D := match ρ[i]? with
  | some (.al k j) => match ρ[k]? with
    | some (.ll (.li xss)) => match xss[j]? with
      | some xs => match f (.li xs) ds with
        | some (.li ys, d) => .ok d (ρ.set k (.ll (.li (xss.set j ys))))
        | _ => .st
      | none => .st
    | _ => .st
  | _ => .st
def oAlK (i : Nat) (f : Ct → List D → Option (Ct × D)) (oas : O (List D)) : O D := fun ρ => match ρ[i]? with
  | some (.al k j) => match ρ[k]? with
    | some (.ll (.li _)) => (oas ρ).bind (alK1 i f)
    | _ => .st
  | _ => .st
def stAl1 (i : Nat) (d iv : D) (ρ : Rho) : Mo := match ρ[i]? with
  | some (.al k j) => match ρ[k]? with
    | some (.ll (.li xss)) => match xss[j]? with
      | some xs => match stL xs iv d with
        | some (.li ys) => .nx (ρ.set k (.ll (.li (xss.set j ys))))
        | _ => .st
      | none => .st
    | _ => .st
  | _ => .st
def oStAl (i : Nat) (ov oi : O D) : Os := fun ρ => (ov ρ).bindS fun d ρ1 => match ρ1[i]? with
  | some (.al k j) => match ρ1[k]? with
    | some (.ll (.li _)) => (oi ρ1).bindS (stAl1 i d)
    | _ => .st
  | _ => .st
def appPop3 (k j m : Nat) (p : Int) (xss : List (List D)) (ρ1 : Rho) : M D := match xss[m]? with
  | some xs => if 0 ≤ p ∧ p.natAbs < 4611686018427387904 then match xs[p.toNat]? with
    | some d => match (xss.set m (xs.eraseIdx p.toNat))[j]? with
      | some ys => if ys.length < 16000000 then .ok .none (ρ1.set k (.ll (.li ((xss.set m (xs.eraseIdx p.toNat)).set j (ys ++ [d]))))) else .st
      | none => .st
    | none => .st
    else .st
  | none => .st
def appPop1 (k i q : Nat) (n : D) (ρ1 : Rho) : M D := match ρ1[k]?, n with
  | some (.ll (.li xss)), .int n => match ixN xss.length n, ρ1[i]?, ρ1[q]? with
    | some j, some (.al k' m), some (.pu (.int p)) => if k' = k then appPop3 k j m p xss ρ1 else .st
    | _, _, _ => .st
  | _, _ => .st
def oAppPop (k i q : Nat) (oi : O D) : O D := fun ρ => match ρ[k]? with
  | some (.ll (.li _)) => (oi ρ).bind (appPop1 k i q)
  | _ => .st
theorem MutK.of {K : PySem.W.Frag} {r : V → List V → Hp → VK → Prop} {f : Ct → List D → Option (Ct × D)} (h : MutS K r f) : MutK K r f := fun a o c vs ds c' d Z H Q e ho cr rv hf k =>
  h a o c vs ds c' d Z H Q e ho cr (by
    have gen : ∀ {vs : List V} {ds : List D}, RpAll K Z vs ds → Paired (Rdb K Z H) vs ds := by
      intro vs ds r
      induction ds generalizing vs with
      | nil => cases r; exact .nil
      | cons d ds ih => cases r with | cons r1 r2 => exact .cons (.inl r1) (ih r2)
    exact gen rv) hf k
/-- .. an answer that writes the same list -/
def MutL (K : PySem.W.Frag) (r : V → List V → Hp → VK → Prop) (f : Ct → List D → Option (Ct × D)) : Prop := ∀ (a : Addr) (us : List V) (xs : List D) (vs : List V) (ds : List D) (ys : List D) (d : D) (Z H : Hp) (Q : VK), Same Z H → H a = some (.lst us) → RpAll K Z us xs →
  RpAll K Z vs ds → f (.li xs) ds = some (.li ys, d) → (∀ v us', RpAll K Z us' ys → Rp K Z v d → Q v (upd H a (.lst us'))) → r (.ref a) vs H Q
theorem MutL.of {K : PySem.W.Frag} {r : V → List V → Hp → VK → Prop} {f : Ct → List D → Option (Ct × D)} (h : MutK K r f) : MutL K r f := fun a us xs vs ds ys d Z H Q e ho r1 rv hf k =>
  h a (.lst us) (.li xs) vs ds (.li ys) d Z H Q e ho r1 rv hf fun v o' cr rd => by
    cases o' with
    | lst us' => exact k v us' cr rd
    | _ => exact cr.elim
section
variable {X : Cx} {G : Gm} {B : Wish} {name x y z : Str} {apos cpos npos pos pos' spos p2 p3 pp1 pp2 pp3 pp4 : Pos} {e o ix : Expr} {es : List Expr} {id : String} {r : V → List V → Hp → VK → Prop} {f : Ct → List D → Option (Ct × D)}
theorem pd_frzLL (k : Nat) (hN : X.N[k]? = some x := by rfl) (hv : Vis X.env.scope x := by first | exact Or.inl rfl | exact Or.inr (Or.inl rfl) | exact Or.inr (Or.inr rfl)) (hd : (x == ("__debug__" : Str)) = false := by decide)
    (hcd : (x == ("__classdict__" : Str)) = false := by decide) : PD X G B (.Name x pos) (oFrzLL k) := by
  refine pe_imp (pe_var (i := k) hN hv hd hcd) ?_
  rintro σ H Q ⟨Z, ρ, S, p⟩
  unfold oFrzLL at p
  split at p
  · rename_i xss h
    obtain ⟨a, Z', q, e, R, S1⟩ := S.freezeLL h
    exact ⟨_, q, p _ Z' H e S1 R⟩
  · exact p.elim
theorem pd_lenLL (k : Nat) (hg : Gl X "len") (hm : X.mg "len" = none) (hN : X.N[k]? = some x := by rfl) (hv : Vis X.env.scope x := by first | exact Or.inl rfl | exact Or.inr (Or.inl rfl) | exact Or.inr (Or.inr rfl)) (hd : (x == ("__debug__" : Str)) = false := by decide)
    (hcd : (x == ("__classdict__" : Str)) = false := by decide) (hs : starEach [.Name x npos] X.env = (false, eval (.Name x npos) X.env) :: starEach [] X.env := by rfl) : PD X G B (.Call (.Name "len" p2) [.Name x npos] [] pos) (oLenLL k) := by
  refine pe_imp (pe_callB call_len hg hm PySem.boot_len (pa_cons (pe_var (i := k) hN hv hd hcd) pa_nil hs) (he := hs) (hpl := rfl)) ?_
  rintro σ H Q ⟨Z, ρ, S, p⟩
  unfold oLenLL at p
  split at p
  · rename_i xss h
    obtain ⟨a, bs, A⟩ := S.lx.lla h
    have hl : bs.length = xss.length := Paired.length A.p
    refine ⟨_, A.s, .ref a, xss.length, rfl, .inl ⟨bs.map V.ref, SqL.of A.h, by rw [List.length_map, hl]⟩, p _ Z H (.refl _) S (.int _)⟩
  · exact p.elim
/-- x[i] is the list at its place -/
theorem ix_at {K : PySem.W.Frag} {H : Hp} {a b : Addr} {bs : List Addr} {n : Int} {j : Nat} {Q : VK} {l : Nat} (h : H a = some (.lst (bs.map V.ref))) (hl : bs.length = l) (hj : ixN l n = some j) (hb : bs[j]? = some b) (q : Q (.ref b) H) : rIxL K (.ref a) (.int n) H Q := by
  subst hl
  refine ⟨a, bs.map V.ref, n, .ref b, rfl, rfl, SqL.of h, ?_, q⟩
  unfold atI
  rw [List.length_map, hj]
  show (bs.map V.ref)[j]? = some (.ref b)
  rw [List.getElem?_map, hb]
  rfl
theorem bs_at {K : PySem.W.Frag} {G : Gm} {Z : Hp} {ρ : Rho} {σ : St} {H : Hp} {k : Nat} {a : Addr} {bs : List Addr} {xss : List (List D)} (A : LLa K G Z ρ σ H k a bs xss) {n : Int} {j : Nat} (hj : ixN xss.length n = some j) : ∃ b, bs[j]? = some b := by
  have hl : bs.length = xss.length := Paired.length A.p
  have : j < xss.length := (ixN_seq hj).2.1
  exact ⟨bs[j]'(by omega), List.getElem?_eq_getElem (by omega)⟩
theorem xs_at {K : PySem.W.Frag} {G : Gm} {Z : Hp} {ρ : Rho} {σ : St} {H : Hp} {k : Nat} {a : Addr} {bs : List Addr} {xss : List (List D)} (A : LLa K G Z ρ σ H k a bs xss) {j : Nat} {xs : List D} (hj : xss[j]? = some xs) : ∃ b us, bs[j]? = some b ∧ H b = some (.lst us) ∧ RpAll K Z us xs := by
  have hl : bs.length = xss.length := Paired.length A.p
  have : j < xss.length := (List.getElem?_eq_some_iff.mp hj).1
  have hb : bs[j]? = some (bs[j]'(by omega)) := List.getElem?_eq_getElem (by omega)
  obtain ⟨us, h1, h2⟩ := paired_both A.p hb hj
  exact ⟨_, us, hb, h1, h2⟩
theorem pd_appLL (k : Nat) {oi oe : O D} (hi : PD X G B ix oi) (he : ∀ G, PD X G noB e oe)
    (hN : X.N[k]? = some x := by rfl) (hv : Vis X.env.scope x := by first | exact Or.inl rfl | exact Or.inr (Or.inl rfl) | exact Or.inr (Or.inr rfl)) (hd : (x == ("__debug__" : Str)) = false := by decide)
    (hcd : (x == ("__classdict__" : Str)) = false := by decide) (hsi : PlainIx ix := by exact fun _ _ => rfl)
    (hbase : attributeBase (.Subscript (.Name x npos) ix pos) "append" X.env (eval (.Subscript (.Name x npos) ix pos) X.env) = eval (.Subscript (.Name x npos) ix pos) X.env := by rfl)
    (hfew : ((backTo cpos (starEach [e] X.env)).all (fun x => !x.1) && (backToKw cpos (keywordEach [] X.env)).all (fun x => x.1.isSome)
      && decide ([e].length + ([] : List Keyword).length + (if ([] : List Keyword).isEmpty then 0 else 1) < 30)) = true := by rfl)
    (hline : (apos.endLine == cpos.line) = true := by rfl) (hs : starEach [e] X.env = (false, eval e X.env) :: starEach [] X.env := by rfl) :
    PD X G B (.Call (.Attribute (.Subscript (.Name x npos) ix pos) "append" apos) [e] [] cpos) (oAppLL k oi oe) := by
  have hE : PE X e (fun σ H Q => ∃ G', Run X.K G' noB (PuR X.K) oe σ H Q) := ⟨fun pins s σ H Q I ⟨G', w⟩ => (he G').run pins s σ H Q I w⟩
  refine pe_imp (pe_bm PySem.F.plainAttrs_list F.slot_list_append F.type_list_append mt_append (pe_ix (ix_list) (pe_var (i := k) hN hv hd hcd) hi hsi) (pa_cons hE pa_nil hs) hbase hfew hline hs rfl) ?_
  rintro σ H Q ⟨Z, ρ, S, p⟩
  unfold oAppLL at p
  split at p
  · rename_i xss0 h0
    obtain ⟨a, bs0, A0⟩ := S.lx.lla h0
    refine ⟨_, A0.s, Z, ρ, S, Post.bind p fun iv d ρ1 Z1 H1 e1 S1 r1 p1 => ?_⟩
    unfold appLL1 at p1
    split at p1
    · rename_i xss n h1
      split at p1
      · rename_i j hj
        cases (show Rp X.K Z1 iv (.int n) from r1)
        obtain ⟨a', bs, A⟩ := S1.lx.lla h1
        have ea : a' = a := by have := A0.s.symm.trans A.s; cases this; rfl
        subst ea
        obtain ⟨b, hb⟩ := bs_at A hj
        have hl : bs.length = xss.length := Paired.length A.p
        have mb : b ∈ bs := List.mem_of_getElem? hb
        refine ix_at A.h hl hj hb ?_
        obtain ⟨b', us, hb', hus, rus⟩ := xs_at A (j := j) (xs := xss[j]'(ixN_seq hj).2.1) (List.getElem?_eq_getElem _)
        rw [hb] at hb'
        cases hb'
        obtain ⟨S2, F2⟩ := S1.dropLL h1 A
        have S3 := S2.toGh F2
        have FS1 := S2.fixed F2
        refine ⟨.inl ⟨rfl, us, SqL.of hus⟩, G.gh (a' :: bs) H1, Z1, _, S3, ?_⟩
        cases hoe : oe ((cutAl k ρ1).set k .no) with
        | st => rw [hoe] at p1; exact p1.elim
        | ex x' ρ2 => rw [hoe] at p1; exact p1.elim
        | ok d ρ2 =>
          rw [hoe] at p1
          intro v Z2 H2 e2 S4 rv
          have rv : Rp X.K Z2 v d := rv
          obtain ⟨S5, F5, hh⟩ := S4.ofGh FS1
          have p2 : Post X.K G B (PuR X.K) σ Z1 (appLL2 k j xss (.ok d ρ2)) Q := p1
          unfold appLL2 at p2
          dsimp only at p2
          split at p2
          · rename_i xs h2 hn hx
            split at p2
            · rename_i hlen
              have hx' : xss[j]'(ixN_seq hj).2.1 = xs := by
                have := hx
                rw [List.getElem?_eq_getElem (ixN_seq hj).2.1] at this
                exact Option.some.inj this
              rw [hx'] at rus
              have rus2 : RpAll X.K Z2 us xs := rus.mono e2
              have hp2 : Paired (fun b xs => ∃ vs, H2 b = some (.lst vs) ∧ RpAll X.K Z2 vs xs) bs xss := paired_imp A.p fun c ys hc ⟨vs, w1, w2⟩ => ⟨vs, by rw [hh c (List.mem_cons_of_mem _ hc)]; exact w1, w2.mono e2⟩
              have S6 := S5.putLL h2 hn A.s (by rw [hh a' List.mem_cons_self]; exact A.h) hp2 A.nd F5
              have hk : k < (cutAl k ρ2).length := by rw [cutAl_length]; exact (List.getElem?_eq_some_iff.mp h2).1
              have h6 : ((cutAl k ρ2).set k (.ll (.li xss)))[k]? = some (.ll (.li xss)) := List.getElem?_set_self hk
              obtain ⟨a6, bs6, A6⟩ := S6.lx.lla h6
              have ea : a6 = a' := by have := A6.s.symm.trans A.s; cases this; rfl
              subst ea
              have eb : bs6 = bs := by
                have h7 : H2 a6 = some (.lst (bs.map V.ref)) := by rw [hh a6 List.mem_cons_self]; exact A.h
                have := A6.h.symm.trans h7
                injection this with this
                injection this with this
                exact refs_inj this
              subst eb
              obtain ⟨S7, _⟩ := S6.writeLL h6 A6 hb (rus2.append (.one rv))
              rw [List.set_set] at S7
              refine ⟨b, us, v, rfl, rfl, by rw [hh b (List.mem_cons_of_mem _ mb)]; exact hus, by rw [rus.length]; exact lim_lt hlen, ?_⟩
              exact p2 .non Z2 _ e2 S7 .non
            · exact p2.elim
          · exact p2.elim
      · exact p1.elim
    · exact p1.elim
  · exact p.elim
theorem sd_alias (i k : Nat) {oi : O D} (hi : PD X G B ix oi) (hNd : X.N.Nodup)
    (hNi : X.N[i]? = some y := by rfl) (hx : Loc X.env.scope y := by first | exact Or.inl rfl | exact Or.inr rfl)
    (hN : X.N[k]? = some x := by rfl) (hv : Vis X.env.scope x := by first | exact Or.inl rfl | exact Or.inr (Or.inl rfl) | exact Or.inr (Or.inr rfl)) (hd : (x == ("__debug__" : Str)) = false := by decide)
    (hcd : (x == ("__classdict__" : Str)) = false := by decide) (hsi : PlainIx ix := by exact fun _ _ => rfl)
    (hs : swapsWith (.Subscript (.Name x npos) ix pos) (some (.Name y pos')) spos.line X.env = pure false := by rfl)
    (hf : X.fn y = true ∨ X.env.scope.names.lookup y = some .local := by first | exact .inl rfl | exact .inr rfl | assumption) :
    SD X G B (.Assign [.Name y pos'] (.Subscript (.Name x npos) ix pos) spos) (oAlias i k oi) := by
  refine ps_imp (ps_set hNd hNi hx (pe_ix (ix_list) (pe_var (i := k) hN hv hd hcd) hi hsi) hs hf) ?_
  rintro D' σ H ⟨Z, ρ, S, p⟩
  unfold oAlias at p
  split at p
  · rename_i xss0 h0
    obtain ⟨a, bs0, A0⟩ := S.lx.lla h0
    refine ⟨_, A0.s, Z, ρ, S, PostS.bind p fun iv d ρ1 Z1 H1 e1 S1 r1 p1 => ?_⟩
    unfold alias1 at p1
    split at p1
    · rename_i xss n h1
      split at p1
      · rename_i j hj
        split at p1
        · rename_i hik
          cases (show Rp X.K Z1 iv (.int n) from r1)
          obtain ⟨a', bs, A⟩ := S1.lx.lla h1
          have ea : a' = a := by have := A0.s.symm.trans A.s; cases this; rfl
          subst ea
          obtain ⟨b, hb⟩ := bs_at A hj
          refine ix_at A.h (Paired.length A.p) hj hb ?_
          cases hq : setSl ρ1 i (.al k j) with
          | none => rw [hq] at p1; exact p1.elim
          | some ρ' =>
            rw [hq] at p1
            exact p1 _ Z1 H1 (.refl _) (S1.putAl h1 A hb hik hq)
        · exact p1.elim
      · exact p1.elim
    · exact p1.elim
  · exact p.elim
theorem al_at {K : PySem.W.Frag} {G : Gm} {Z : Hp} {ρ : Rho} {σ : St} {H : Hp} (S : Sim K G Z ρ σ H) {i k j : Nat} {xss : List (List D)} (hi : ρ[i]? = some (.al k j)) (hk : ρ[k]? = some (.ll (.li xss))) : ∃ a bs b, LLa K G Z ρ σ H k a bs xss ∧ bs[j]? = some b ∧ σ[i]? = some (some (V.ref b)) ∧ ∃ us, H b = some (.lst us) := by
  obtain ⟨a, bs, A⟩ := S.lx.lla hk
  obtain ⟨b, h1, h2⟩ := S.lx.al i k j _ hi hk a bs A.s A.h
  have hl : bs.length = xss.length := Paired.length A.p
  have : j < bs.length := (List.getElem?_eq_some_iff.mp h1).1
  obtain ⟨b', us, h3, h4, _⟩ := xs_at A (j := j) (xs := xss[j]'(by omega)) (List.getElem?_eq_getElem _)
  rw [h1] at h3
  cases h3
  exact ⟨a, bs, b, A, h1, h2, us, h4⟩
theorem alK1_run {K : PySem.W.Frag} (hf : MutL K r f) {i : Nat} {σ : St} {Z H : Hp} {ρ : Rho} {v : V} {vs : List V} {ds : List D} {Q : VK} (S : Sim K G Z ρ σ H) (q : σ[i]? = some (some v)) (rv : RpAll K Z vs ds)
    (p : Post K G B (PuR K) σ Z (alK1 i f ds ρ) Q) : r v vs H Q := by
  unfold alK1 at p
  split at p
  · rename_i k j hi
    split at p
    · rename_i xss hk
      split at p
      · rename_i xs hx
        split at p
        · rename_i ys d hc
          obtain ⟨a, bs, b, A, hb, h2, us, hus⟩ := al_at S hi hk
          rw [q] at h2
          cases h2
          obtain ⟨b', us', hb', hus', rus⟩ := xs_at A hx
          rw [hb] at hb'
          cases hb'
          exact hf b us' xs vs ds ys d Z H Q S.zh hus' rus rv hc fun w us2 r2 rw' => p w Z _ (.refl _) (S.writeLL hk A hb r2).1 rw'
        · exact p.elim
      · exact p.elim
    · exact p.elim
  · exact p.elim
theorem pd_alK (i : Nat) {oas : O (List D)} (slot : Slot "list" name id) (hty : typeOf (.builtin id) = pure (.type "method_descriptor")) (hm : MtR X id r) (hf : MutL X.K r f) (ha : QD X G B (e :: es) oas)
    (hN : X.N[i]? = some x := by rfl) (hv : Vis X.env.scope x := by first | exact Or.inl rfl | exact Or.inr (Or.inl rfl) | exact Or.inr (Or.inr rfl)) (hd : (x == ("__debug__" : Str)) = false := by decide)
    (hcd : (x == ("__classdict__" : Str)) = false := by decide)
    (hbase : attributeBase (.Name x npos) name X.env (eval (.Name x npos) X.env) = eval (.Name x npos) X.env := by rfl)
    (hfew : ((backTo cpos (starEach (e :: es) X.env)).all (fun x => !x.1) && (backToKw cpos (keywordEach [] X.env)).all (fun x => x.1.isSome)
      && decide ((e :: es).length + ([] : List Keyword).length + (if ([] : List Keyword).isEmpty then 0 else 1) < 30)) = true := by rfl)
    (hline : (apos.endLine == cpos.line) = true := by rfl) (hs : starEach (e :: es) X.env = (false, eval e X.env) :: starEach es X.env := by rfl) (hplain : (backTo cpos (starEach es X.env)).any (·.1) = false := by rfl) :
    PD X G B (.Call (.Attribute (.Name x npos) name apos) (e :: es) [] cpos) (oAlK i f oas) := by
  refine pe_imp (pe_bm PySem.F.plainAttrs_list slot hty hm (pe_var (i := i) hN hv hd hcd) ha hbase hfew hline hs hplain) ?_
  rintro σ H Q ⟨Z, ρ, S, p⟩
  unfold oAlK at p
  split at p
  · rename_i k j hi
    split at p
    · rename_i xss hk
      obtain ⟨a, bs, b, A, hb, h2, us, hus⟩ := al_at S hi hk
      exact ⟨_, h2, .inl ⟨rfl, us, SqL.of hus⟩, Z, ρ, S, Post.bind p fun ws as ρ1 Z1 H1 e1 S1 r1 p1 => alK1_run hf S1 h2 r1 p1⟩
    · exact p.elim
  · exact p.elim
theorem sd_stAl (i : Nat) {ov oi : O D} (hv : PD X G B e ov) (hi : PD X G B ix oi)
    (hN : X.N[i]? = some x := by rfl) (hvis : Vis X.env.scope x := by first | exact Or.inl rfl | exact Or.inr (Or.inl rfl) | exact Or.inr (Or.inr rfl)) (hd : (x == ("__debug__" : Str)) = false := by decide)
    (hcd : (x == ("__classdict__" : Str)) = false := by decide)
    (ha : ∀ v, assign (.Subscript (.Name x npos) ix pos') X.env v = (do
      let ov ← holding [v] (eval (.Name x npos) X.env)
      let iv ← holding [v, ov] (eval ix X.env)
      standAt pos'
      holding [v, ov, iv] (setItem ov iv v)
      release [v, ov, iv] []) := by intro _; rfl)
    (hs : swapsWithSole [.Subscript (.Name x npos) ix pos'] e pos.line X.env = pure false := by rfl) (hw : swappedStores [.Subscript (.Name x npos) ix pos'] e X.env = pure none := by rfl)
    (h1 : (assignEach [.Subscript (.Name x npos) ix pos'] X.env).map (·.2) = [assign (.Subscript (.Name x npos) ix pos') X.env] := by rfl) :
    SD X G B (.Assign [.Subscript (.Name x npos) ix pos'] e pos) (oStAl i ov oi) :=
  ps_imp (ps_asg hv (pg_sub (pe_var (i := i) hN hvis hd hcd) hi set_list ha) hs hw h1) fun D σ H w => runS_bind (C := fun v H1 => gSub (tVar i) (Run X.K G B (PuR X.K) oi) rSetL v σ H1 D.nx) w fun v d ρ1 Z1 H1 S1 rv p1 => by
    split at p1
    · rename_i k j hi1
      split at p1
      · rename_i xss hk
        obtain ⟨a, bs, b, A, hb, h2, us, hus⟩ := al_at S1 hi1 hk
        refine ⟨_, h2, Z1, ρ1, S1, PostS.bind p1 fun iv di ρ2 Z2 H2 e2 S2 r2 p2 => ?_⟩
        unfold stAl1 at p2
        split at p2
        · rename_i k' j' hi2
          split at p2
          · rename_i yss hk2
            split at p2
            · rename_i xs hx
              split at p2
              · rename_i ys hc
                unfold stL at hc
                split at hc
                · rename_i jj
                  cases hj : ixN xs.length jj with
                  | none => rw [hj] at hc; cases hc
                  | some n =>
                    rw [hj] at hc
                    cases hc
                    cases (show Rp X.K Z2 iv (.int jj) from r2)
                    obtain ⟨a', bs', b', A', hb', h2', us', hus'⟩ := al_at S2 hi2 hk2
                    rw [h2] at h2'
                    cases h2'
                    obtain ⟨b'', us'', hb'', hus'', rus⟩ := xs_at A' hx
                    rw [hb'] at hb''
                    cases hb''
                    exact ⟨b, us'', jj, n, rfl, rfl, hus'', by rw [RpAll.length rus]; exact hj, p2 σ Z2 _ (.refl _) (S2.writeLL hk2 A' hb' (RpAll.set (Rp.mono rv e2) n rus)).1⟩
                · cases hc
              · exact p2.elim
            · exact p2.elim
          · exact p2.elim
        · exact p2.elim
      · exact p1.elim
    · exact p1.elim
theorem pd_appPop (k i q : Nat) {oi : O D} (hi : PD X G B ix oi)
    (hN : X.N[k]? = some x := by rfl) (hv : Vis X.env.scope x := by first | exact Or.inl rfl | exact Or.inr (Or.inl rfl) | exact Or.inr (Or.inr rfl)) (hd : (x == ("__debug__" : Str)) = false := by decide)
    (hcd : (x == ("__classdict__" : Str)) = false := by decide)
    (hNi : X.N[i]? = some y := by rfl) (hvi : Vis X.env.scope y := by first | exact Or.inl rfl | exact Or.inr (Or.inl rfl) | exact Or.inr (Or.inr rfl)) (hdi : (y == ("__debug__" : Str)) = false := by decide)
    (hcdi : (y == ("__classdict__" : Str)) = false := by decide)
    (hNq : X.N[q]? = some z := by rfl) (hvq : Vis X.env.scope z := by first | exact Or.inl rfl | exact Or.inr (Or.inl rfl) | exact Or.inr (Or.inr rfl)) (hdq : (z == ("__debug__" : Str)) = false := by decide)
    (hcdq : (z == ("__classdict__" : Str)) = false := by decide) (hsi : PlainIx ix := by exact fun _ _ => rfl)
    (hbase : attributeBase (.Subscript (.Name x npos) ix pos) "append" X.env (eval (.Subscript (.Name x npos) ix pos) X.env) = eval (.Subscript (.Name x npos) ix pos) X.env := by rfl)
    (hfew : ((backTo cpos (starEach [.Call (.Attribute (.Name y pp1) "pop" pp2) [.Name z pp3] [] pp4] X.env)).all (fun x => !x.1) && (backToKw cpos (keywordEach [] X.env)).all (fun x => x.1.isSome)
      && decide ([Expr.Call (.Attribute (.Name y pp1) "pop" pp2) [.Name z pp3] [] pp4].length + ([] : List Keyword).length + (if ([] : List Keyword).isEmpty then 0 else 1) < 30)) = true := by rfl)
    (hline : (apos.endLine == cpos.line) = true := by rfl) (hs : starEach [.Call (.Attribute (.Name y pp1) "pop" pp2) [.Name z pp3] [] pp4] X.env = (false, eval (.Call (.Attribute (.Name y pp1) "pop" pp2) [.Name z pp3] [] pp4) X.env) :: starEach [] X.env := by rfl)
    (hbase2 : attributeBase (.Name y pp1) "pop" X.env (eval (.Name y pp1) X.env) = eval (.Name y pp1) X.env := by rfl)
    (hfew2 : ((backTo pp4 (starEach [.Name z pp3] X.env)).all (fun x => !x.1) && (backToKw pp4 (keywordEach [] X.env)).all (fun x => x.1.isSome)
      && decide ([Expr.Name z pp3].length + ([] : List Keyword).length + (if ([] : List Keyword).isEmpty then 0 else 1) < 30)) = true := by rfl)
    (hline2 : (pp2.endLine == pp4.line) = true := by rfl) (hs2 : starEach [.Name z pp3] X.env = (false, eval (.Name z pp3) X.env) :: starEach [] X.env := by rfl) :
    PD X G B (.Call (.Attribute (.Subscript (.Name x npos) ix pos) "append" apos) [.Call (.Attribute (.Name y pp1) "pop" pp2) [.Name z pp3] [] pp4] [] cpos) (oAppPop k i q oi) := by
  refine pe_imp (pe_bm PySem.F.plainAttrs_list F.slot_list_append F.type_list_append mt_append (pe_ix (ix_list) (pe_var (i := k) hN hv hd hcd) hi hsi) (pa_cons (pe_bm PySem.F.plainAttrs_list F.slot_list_pop F.type_list_pop mt_popAt (pe_var (i := i) hNi hvi hdi hcdi) (pa_cons (pe_var (i := q) hNq hvq hdq hcdq) pa_nil hs2) hbase2 hfew2 hline2 hs2 rfl) pa_nil hs) hbase hfew hline hs rfl) ?_
  rintro σ H Q ⟨Z, ρ, S, p⟩
  unfold oAppPop at p
  split at p
  · rename_i xss0 h0
    obtain ⟨a, bs0, A0⟩ := S.lx.lla h0
    refine ⟨_, A0.s, Z, ρ, S, Post.bind p fun iv d ρ1 Z1 H1 e1 S1 r1 p1 => ?_⟩
    unfold appPop1 at p1
    split at p1
    · rename_i xss n h1
      split at p1
      · rename_i j k' m pz hj hi1 hq1
        split at p1
        · rename_i hkk
          subst hkk
          unfold appPop3 at p1
          split at p1
          · rename_i xs hx
            split at p1
            · rename_i hp0
              split at p1
              · rename_i dd hdd
                split at p1
                · rename_i ys hys
                  split at p1
                  · rename_i hlen
                    cases (show Rp X.K Z1 iv (.int n) from r1)
                    obtain ⟨a', bs, b2, A, hb2, h2, us0, hus0⟩ := al_at S1 hi1 h1
                    have ea : a' = a := by have := A0.s.symm.trans A.s; cases this; rfl
                    subst ea
                    obtain ⟨b, hb⟩ := bs_at A hj
                    obtain ⟨b2', us, hb2', hus, rus⟩ := xs_at A hx
                    rw [hb2] at hb2'
                    cases hb2'
                    obtain ⟨pv, hpv, rpv⟩ := S1.pu q _ hq1
                    cases rpv
                    obtain ⟨w, hw, rw'⟩ := RpAll.get rus hdd
                    have hl2 : pz.toNat < us.length := (List.getElem?_eq_some_iff.mp hw).1
                    obtain ⟨S2, A2⟩ := S1.writeLL h1 A hb2 (RpAll.eraseIdx pz.toNat rus)
                    have hkl : k' < ρ1.length := (List.getElem?_eq_some_iff.mp h1).1
                    have h2k : (ρ1.set k' (.ll (.li (xss.set m (xs.eraseIdx pz.toNat)))))[k']? = some (.ll (.li (xss.set m (xs.eraseIdx pz.toNat)))) := List.getElem?_set_self hkl
                    obtain ⟨b', us2, hb', hus2, rus2⟩ := xs_at A2 hys
                    rw [hb] at hb'
                    cases hb'
                    obtain ⟨bb, usb, hbb, husb, _⟩ := xs_at A (j := j) (xs := xss[j]'(ixN_seq hj).2.1) (List.getElem?_eq_getElem _)
                    rw [hb] at hbb
                    cases hbb
                    refine ix_at A.h (Paired.length A.p) hj hb ⟨.inl ⟨rfl, usb, SqL.of husb⟩, _, h2, .inl ⟨rfl, us, SqL.of hus⟩, _, hpv, ?_⟩
                    refine ⟨b2, us, pz, pz.toNat, w, rfl, rfl, hus, by omega, by omega, seqIndex_nat hp0.1 hl2, hw, ?_⟩
                    obtain ⟨S3, _⟩ := S2.writeLL h2k A2 hb (rus2.append (.one rw'))
                    rw [List.set_set] at S3
                    exact ⟨b, us2, w, rfl, rfl, hus2, by rw [rus2.length]; exact lim_lt hlen, p1 .non Z1 _ (.refl _) S3 .non⟩
                  · exact p1.elim
                · exact p1.elim
              · exact p1.elim
            · exact p1.elim
          · exact p1.elim
        · exact p1.elim
      · exact p1.elim
    · exact p1.elim
  · exact p.elim
end
end Ow
namespace Ow
open PySem L2
/-! ### a comprehension that makes a list of own lists -/
def newL1 (r : Rs) (ρ : Rho) : M D := match r with
  | .nw (.li ds) => .ok (.list ds) ρ
  | _ => .st
@[simp] theorem newL1_li (ds : List D) (ρ : Rho) : newL1 (.nw (.li ds)) ρ = .ok (.list ds) ρ := rfl
def oNewL (oe : O Rs) : O D := fun ρ => (oe ρ).bind newL1
def listsOf : List D → Option (List (List D))
  | [] => some []
  | .list xs :: r => (listsOf r).map (xs :: ·)
  | _ :: _ => none
@[simp] theorem listsOf_map (xss : List (List D)) : listsOf (xss.map PyData.list) = some xss := by
  induction xss with
  | nil => rfl
  | cons n r ih => simp [listsOf, ih]
theorem listsOf_eq : ∀ {ds : List D} {xss : List (List D)}, listsOf ds = some xss → ds = xss.map PyData.list
  | [], _, h => by cases h; rfl
  | d :: r, ns, h => by
    unfold listsOf at h
    split at h
    · rename_i e; cases e
    · rename_i i r' e
      cases e
      cases q : listsOf r with
      | none => rw [q] at h; cases h
      | some ms => rw [q] at h; cases h; rw [listsOf_eq q]; rfl
    · cases h
def mkLL3 (i : Nat) (xss : List (List D)) (o : Option Rho) : Mo := match o with
  | some ρ => if noLL ρ = true then .nx ((cutAl i ρ).set i (.ll (.li xss))) else .st
  | none => .st
def mkLL2 (i : Nat) (vs : List Nat) (ρ1 : Rho) (m : M (List D)) : Mo := match m with
  | .ok ys ρ2 => match listsOf ys with
    | some xss => mkLL3 i xss (setSl (restR ρ1 ρ2 vs) i .no)
    | none => .st
  | _ => .st
def mkLL1 (i : Nat) (vs : List Nat) (g : D → Rho → Option Rho) (oe : O Rs) (ds : List D) (ρ1 : Rho) : Mo :=
  if okW ρ1 vs = true ∧ ds.length ≤ 16000000 then mkLL2 i vs ρ1 (lcL vs g oYes (oNewL oe) ds (wipeR ρ1 vs)) else .st
def oMkLL (i : Nat) (vs : List Nat) (oi : O (List D)) (g : D → Rho → Option Rho) (oe : O Rs) : Os := fun ρ => (oi ρ).bindS (mkLL1 i vs g oe)
section
variable {K : PySem.W.Frag} {G : Gm} {Z : Hp} {ρ ρ' : Rho} {σ : St} {H H' : Hp} {fs vs : List Nat}
theorem FP.grow {fs : List Addr} {Z' : Hp} (F : FP K G Z ρ σ H fs) (L : LX K G Z ρ σ H) (g : Grow Z H Z' H') : FP K G Z' ρ σ H' fs := by
  refine ⟨fun b hb => let ⟨o, ho⟩ := F.o b hb; ⟨o, g.h _ _ ho⟩, fun b hb => ?_, F.g, fun b hb => (F.n b hb).heap L fun c o _ ho => g.h _ _ ho⟩
  cases q : Z' b with
  | none => rfl
  | some u =>
    obtain ⟨o, ho⟩ := F.o b hb
    rcases g.n b u q with q' | q'
    · rw [F.z b hb] at q'; cases q'
    · rw [ho] at q'; cases q'
theorem FP.wiped {fs : List Addr} (F : FP K G Z ρ σ H fs) : FP K G Z (wipeR ρ vs) (wipe σ vs) H fs := ⟨F.o, F.z, F.g, fun b hb => (F.n b hb).wipe⟩
/-- a thing beside the slots is written -/
theorem Sim.side {fs : List Addr} (S : Sim K G Z ρ σ H) (F : FP K G Z ρ σ H fs) {b : Addr} (hb : b ∈ fs) (o : HO) : Sim K G Z ρ σ (upd H b o) ∧ FP K G Z ρ σ (upd H b o) fs := by
  have nn := F.n b hb
  have keep : ∀ c u, InF ρ σ H c → H c = some u → upd H b o c = some u := fun c u f hu => by rw [upd_ne]; exact hu; intro e; subst e; exact nn.2 f
  refine ⟨⟨S.zz, fun c u q => ?_, fun c u q l => ?_, S.nw, S.pu, fun j p c q => ?_, S.ne, S.pin, S.len, S.lx.frame (fun _ _ e => ⟨e, rfl⟩) (fun _ _ _ e => ⟨e, rfl⟩) (.refl _) fun c u f zb gn w hu => ⟨keep c u f hu, zb, gn, w⟩⟩, ⟨fun c hc => ?_, F.z, F.g, fun c hc => (F.n c hc).heap S.lx keep⟩⟩
  · rw [upd_ne (ne_of_none q (F.z b hb))]; exact S.zh _ _ q
  · rw [upd_ne (ne_of_none q (F.g b hb))]; exact S.fr c u q l
  · obtain ⟨a', o', q', ho', r'⟩ := S.ow j p c q
    have hab : a' ≠ b := fun e' => by subst e'; exact nn.1 j p c q q'
    exact ⟨a', o', q', by rw [upd_ne hab]; exact ho', r'⟩
  · by_cases e : c = b
    · subst e; exact ⟨o, upd_same⟩
    · obtain ⟨u, hu⟩ := F.o c hc; exact ⟨u, by rw [upd_ne e]; exact hu⟩
theorem FP.put {fs : List Addr} {i : Nat} {v : V} (F : FP K G Z ρ σ H fs) (h : setSl ρ i .no = some ρ') : FP K G Z ρ' (σ.set i (some v)) H fs := by
  have e0 : ρ' = ρ.set i .no := by
    unfold setSl at h
    split at h
    · cases h
    · cases h; rfl
    · cases h
  subst e0
  have g : ∀ (j : Nat) s, (ρ.set i .no)[j]? = some s → s ≠ .no → j ≠ i ∧ ρ[j]? = some s := fun j s e n => by
    by_cases hj : j = i
    · subst hj
      by_cases hl : j < ρ.length
      · rw [List.getElem?_set_self hl] at e; cases e; exact absurd rfl n
      · rw [List.getElem?_eq_none (by rw [List.length_set]; omega)] at e; cases e
    · rw [List.getElem?_set_ne (Ne.symm hj)] at e; exact ⟨hj, e⟩
  refine ⟨F.o, F.z, F.g, fun b hb => ⟨fun j p c e q => ?_, fun f => ?_⟩⟩
  · obtain ⟨hj, e⟩ := g j _ e (by simp)
    rw [List.getElem?_set_ne (Ne.symm hj)] at q
    exact (F.n b hb).1 j p c e q
  · obtain ⟨j, xss, a, bs, e, q, h3, h4⟩ := f
    obtain ⟨hj, e⟩ := g j _ e (by simp)
    rw [List.getElem?_set_ne (Ne.symm hj)] at q
    exact (F.n b hb).2 ⟨j, xss, a, bs, e, q, h3, h4⟩
theorem FP.rests {fs : List Addr} {vs : List Nat} {ρ1 : Rho} {H1 : Hp} (hl : ρ1.length = ρ.length) (F : FP K G Z ρ (wipe σ vs) H fs) (hw : okW ρ1 vs = true) : FP K G Z (restR ρ1 ρ vs) σ H fs := by
  have g : ∀ (j : Nat) s, (restR ρ1 ρ vs)[j]? = some s → loose (some s) = false → j ∉ vs ∧ ρ[j]? = some s := fun j s e n => by
    rw [restR_get ρ1 ρ j hl] at e
    by_cases hj : j ∈ vs
    · rw [if_pos hj] at e
      have q := List.all_eq_true.mp hw j hj
      rw [e, n] at q
      cases q
    · rw [if_neg hj] at e; exact ⟨hj, e⟩
  refine ⟨F.o, F.z, F.g, fun b hb => ⟨fun j p c e q => ?_, fun f => ?_⟩⟩
  · obtain ⟨hj, e⟩ := g j _ e rfl
    exact (F.n b hb).1 j p c e (by rw [wipe_get, if_neg hj]; exact q)
  · obtain ⟨j, xss, a, bs, e, q, h3, h4⟩ := f
    obtain ⟨hj, e⟩ := g j _ e rfl
    exact (F.n b hb).2 ⟨j, xss, a, bs, e, by rw [wipe_get, if_neg hj]; exact q, h3, h4⟩
theorem paired_snoc {α β : Type} {P : α → β → Prop} {a : α} {b : β} (h : P a b) : ∀ {l : List α} {m : List β}, Paired P l m → Paired P (l ++ [a]) (m ++ [b])
  | _, _, .nil => .cons h .nil
  | _, _, .cons h1 r => .cons h1 (paired_snoc h r)
end
section
variable {X : Cx} {G : Gm} {B : Wish} {elt tg iter c : Expr} {ifs : List Expr} {scope : Scope} {own : List (Str × Nat)} {pos spos py : Pos} {T : List Nat} {oi : O (List D)} {g : D → Rho → Option Rho} {oe : O Rs}
theorem run_mkLL {K : PySem.W.Frag} {gg : TG} {tt : TT} {te : TE} {vs : List Nat} {σ : St} {H : Hp} {D : Ends} (i0 : Nat) (hT : ∀ t ∈ T, t ∈ vs)
    (hg : ∀ G v σ H Q, gRun K G T g v σ H Q → gg v σ H Q) (ht : ∀ G σ H Q, Run K G noB BoR oYes σ H Q → tt σ H Q) (he : ∀ G σ H Q, Run K G noB (RsR K G) oe σ H Q → te σ H Q)
    (w : RunS K G B (oMkLL i0 vs oi g oe) D σ H) : tAsg (tLc (fun σ H R => Run K G B (ItR K) oi σ H R) gg tt te vs) (gName i0) D σ H := by
  refine runS_bind (R := ItR K) (C := fun (J : It) H1 => ∀ L, H1 L = none → ∃ W : Nat → Nat → Hp → Prop, (∃ m, W 0 m (upd H1 L (.lst []))) ∧ ∀ i m H, W i m H →
      (J.stop i H ∧ gName i0 (.ref L) σ H D.nx) ∨ (J.go i H ∧ ∃ Nx : Hp → Prop, (∀ H', Nx H' → ∃ m', m' < m ∧ W (i + 1) m' H') ∧ ∀ x H', J.yld i H x H' → gg x (wipe σ vs) H' fun σ2 H2 => wipe σ2 vs = wipe σ vs ∧ tt σ2 H2 fun b H3 =>
        if b = true then te σ2 H3 fun y H4 => ∃ acc, H4 L = some (.lst acc) ∧ acc.length < sizeLine ∧ Nx (upd H4 L (.lst (acc ++ [y]))) else Nx H3)) w fun J ds ρ1 Z1 H1 S1 wd p1 => ?_
  intro L hL
  unfold mkLL1 at p1
  split at p1
  · rename_i hok
    obtain ⟨hw, hlen⟩ := hok
    cases hm : lcL vs g oYes (oNewL oe) ds (wipeR ρ1 vs) with
    | st => rw [hm] at p1; exact p1.elim
    | ex x ρ2 => rw [hm] at p1; exact p1.elim
    | ok ysF ρF =>
      rw [hm] at p1
      have p2 : PostS K G B Z1 (match listsOf ysF with | some xss => mkLL3 i0 xss (setSl (restR ρ1 ρF vs) i0 .no) | none => .st) D := p1
      cases hys : listsOf ysF with
      | none => rw [hys] at p2; exact p2.elim
      | some xssF =>
      rw [hys] at p2
      dsimp only at p2
      obtain ⟨Gd, Y, wk, h1, h2⟩ := wd
      have hv : ∀ v ∈ vs, ∀ x, (v, x) ∉ G.pins := fun v hv x hx => by
        obtain ⟨_, c, hc⟩ := S1.pin v x hx
        have q := List.all_eq_true.mp hw v hv
        rw [hc] at q
        cases q
      have S0 := S1.grow (.loose S1.zh hL (.lst []))
      have F0 : FP K G Z1 ρ1 σ (upd H1 L (.lst [])) [L] := by
        refine ⟨fun b hb => ?_, fun b hb => ?_, fun b hb => ?_, fun b hb => ?_⟩ <;> (rw [List.mem_singleton] at hb; subst hb)
        · exact ⟨_, upd_same⟩
        · exact S1.fresh hL
        · exact S1.freshIn hL
        · exact (S1.newA hL).heap S1.lx fun c o f ho => by rw [upd_ne]; exact ho; intro e; subst e; rw [hL] at ho; cases ho
      refine lc_it wk (fun i H => ∃ Z ρ bs acc ys, Sim K G Z ρ (wipe σ vs) H ∧ Same Z1 Z ∧ H L = some (.lst (bs.map V.ref)) ∧ Paired (fun b xs => ∃ us, H b = some (.lst us) ∧ RpAll K Z us xs) bs acc ∧ (L :: bs).Nodup ∧ FP K G Z ρ (wipe σ vs) H (L :: bs) ∧
        acc.length ≤ i ∧ lcL vs g oYes (oNewL oe) (ds.drop i) ρ = .ok ys ρF ∧ ysF = acc.map PyData.list ++ ys)
        ⟨Z1, wipeR ρ1 vs, [], [], ysF, S0.wipes hv, .refl _, upd_same, .nil, by simp, F0.wiped, Nat.le_refl _, by rw [List.drop_zero]; exact hm, rfl⟩ (fun i H' _ ⟨Z, ρ, bs, acc, ys, S, e, _⟩ => h1 H' (e.trans S.zh)) ?_ ?_
      · rintro i x H' H2 hi ⟨Z, ρ, bs, acc, ys, S, e, hacc, hp, nd, F, hal, hlc, hys'⟩ y
        obtain ⟨d, Z', hd, gr, rx⟩ := h2 i H' x H2 Z hi e S.zh y
        have hdr : ds.drop i = d :: ds.drop (i + 1) := by
          rw [List.drop_eq_getElem_cons hi]
          have q := (List.getElem?_eq_some_iff.mp hd).2
          rw [q]
        rw [hdr, lcL_cons] at hlc
        have S' := S.grow gr
        have F' := F.grow S.lx gr
        have FS' := S'.fixed F'
        have SG := S'.toGh F'
        cases hg1 : g d ρ with
        | none => rw [hg1] at hlc; cases hlc
        | some ρ2 =>
          rw [hg1] at hlc
          dsimp only at hlc
          refine hg (G.gh (L :: bs) H2) _ _ _ _ ⟨Z', ρ, d, ρ2, SG, rx, hg1, fun σ2 Z2 H3 hl2 hj2 e2 S2 => ?_⟩
          have hw2 : wipe σ2 vs = wipe σ vs := by
            rw [wipe_same hl2 fun j hj => hj2 j fun m => hj (hT j m), wipe_wipe]
          refine ⟨hw2, ht (G.gh (L :: bs) H2) _ _ _ ⟨Z2, ρ2, S2, ?_⟩⟩
          rw [oYes_eq] at hlc ⊢
          intro b' Z3 H4 e3 S3 rb
          have rb : b' = true := rb
          subst rb
          dsimp only at hlc
          rw [if_pos rfl]
          refine he (G.gh (L :: bs) H2) _ _ _ ⟨Z3, ρ2, S3, ?_⟩
          rw [show oNewL oe ρ2 = (oe ρ2).bind newL1 from rfl] at hlc
          cases he1 : oe ρ2 with
          | st => rw [he1] at hlc; cases hlc
          | ex x ρ4 => rw [he1] at hlc; cases hlc
          | ok r ρ4 =>
            rw [he1] at hlc
            cases r with
            | pu d => cases hlc
            | nw ct =>
              cases ct with
              | dk kvs => cases hlc
              | dt kvs => cases hlc
              | li nds =>
                rw [M.bind_ok, newL1_li] at hlc
                dsimp only at hlc
                intro yv Z4 H5 e4 S4 ry
                obtain ⟨S5, F5, hh⟩ := S4.ofGh FS'
                obtain ⟨nb, ob, rfl, hnb, cr, znb, gnb, nnb⟩ := ry
                cases ob with
                | lst us =>
                  have run : RpAll K Z4 us nds := cr
                  have nbf : nb ∉ L :: bs := fun hb => by
                    have e' : ovl G.H0 (L :: bs) H2 nb = none := gnb
                    rw [ovl_in hb] at e'
                    obtain ⟨o, ho⟩ := FS'.o nb hb
                    rw [ho] at e'
                    cases e'
                  have gnb' : G.H0 nb = none := by
                    have e' : ovl G.H0 (L :: bs) H2 nb = none := gnb
                    rw [ovl_out nbf] at e'
                    exact e'
                  have hL5 : H5 L = some (.lst (bs.map V.ref)) := by rw [hh L List.mem_cons_self]; exact gr.h _ _ hacc
                  cases hr : lcL vs g oYes (oNewL oe) (ds.drop (i + 1)) (wipeR ρ4 vs) with
                  | st => rw [hr] at hlc; cases hlc
                  | ex x ρ5 => rw [hr] at hlc; cases hlc
                  | ok ys' ρ5 =>
                    rw [hr] at hlc
                    cases hlc
                    have ea := gr.z.trans (e2.trans (e3.trans e4))
                    have hl : bs.length = acc.length := Paired.length hp
                    refine ⟨bs.map V.ref, hL5, lim_lt (by rw [List.length_map]; omega), ?_⟩
                    have F6 : FP K G Z4 ρ4 σ2 H5 (L :: (bs ++ [nb])) := by
                      have cut : ∀ c ∈ L :: (bs ++ [nb]), c ∈ L :: bs ∨ c = nb := fun c hc => by
                        rcases List.mem_cons.mp hc with rfl | hc
                        · exact .inl List.mem_cons_self
                        · rcases List.mem_append.mp hc with hc | hc
                          · exact .inl (List.mem_cons_of_mem _ hc)
                          · exact .inr (List.mem_singleton.mp hc)
                      refine ⟨fun c hc => ?_, fun c hc => ?_, fun c hc => ?_, fun c hc => ?_⟩ <;> rcases cut c hc with hc | rfl
                      · exact F5.o c hc
                      · exact ⟨_, hnb⟩
                      · exact F5.z c hc
                      · exact znb
                      · exact F5.g c hc
                      · exact gnb'
                      · exact F5.n c hc
                      · exact nnb
                    have S7 := S5.wipes hv
                    have F7 := F6.wiped (vs := vs)
                    rw [hw2] at S7 F7
                    obtain ⟨S8, F8⟩ := S7.side F7 (b := L) List.mem_cons_self (.lst (bs.map V.ref ++ [V.ref nb]))
                    have nd' : (L :: (bs ++ [nb])).Nodup := by
                      obtain ⟨n1, n2⟩ := List.nodup_cons.mp nd
                      refine List.nodup_cons.mpr ⟨fun hm => ?_, ?_⟩
                      · rcases List.mem_append.mp hm with hm | hm
                        · exact n1 hm
                        · exact nbf (by rw [List.mem_singleton.mp hm]; exact List.mem_cons_self)
                      · rw [List.nodup_append]
                        exact ⟨n2, by simp, fun a ha b hb => by rw [List.mem_singleton.mp hb]; intro e; subst e; exact nbf (List.mem_cons_of_mem _ ha)⟩
                    have nL : ∀ c ∈ bs ++ [nb], c ≠ L := fun c hc e => by subst e; exact (List.nodup_cons.mp nd').1 hc
                    refine ⟨Z4, wipeR ρ4 vs, bs ++ [nb], acc ++ [nds], ys', S8, e.trans ea, by rw [upd_same, List.map_append]; rfl, ?_, nd', F8, by simp; omega, hr, by rw [hys']; simp⟩
                    have q1 : Paired (fun c xs => ∃ us, H5 c = some (.lst us) ∧ RpAll K Z4 us xs) bs acc := paired_imp hp fun c xs hc ⟨us', w1, w2⟩ => ⟨us', by rw [hh c (List.mem_cons_of_mem _ hc)]; exact gr.h _ _ w1, w2.mono ea⟩
                    have q2 : Paired (fun c xs => ∃ us, H5 c = some (.lst us) ∧ RpAll K Z4 us xs) (bs ++ [nb]) (acc ++ [nds]) := paired_snoc ⟨us, hnb, run⟩ q1
                    exact paired_imp q2 fun c xs hc ⟨us', w1, w2⟩ => ⟨us', by rw [upd_ne (nL c hc)]; exact w1, w2⟩
                | _ => exact cr.elim
      · rintro H' ⟨Z, ρ, bs, acc, ys, S, e, hacc, hp, nd, F, hal, hlc, hys'⟩
        rw [List.drop_length] at hlc
        cases hlc
        rw [List.append_nil] at hys'
        subst hys'
        rw [listsOf_map] at hys
        cases hys
        have hl : ρ1.length = ρF.length := by rw [S1.len, S.len, wipe_length]
        have SR := S1.rests S e hw
        have FR := F.rests (H1 := H1) hl hw
        unfold mkLL3 at p2
        split at p2
        · rename_i ρ' hset
          split at p2
          · rename_i hno
            have SP := SR.put (v := .ref L) hset trivial
            have FP' := FR.put (v := .ref L) hset
            have hi0 : i0 < (restR ρ1 ρF vs).length ∧ ρ' = (restR ρ1 ρF vs).set i0 .no := by
              unfold setSl at hset
              split at hset
              · cases hset
              · rename_i s0 _ h0; cases hset; exact ⟨(List.getElem?_eq_some_iff.mp h0).1, rfl⟩
              · cases hset
            have hs0 : i0 < σ.length := by rw [← SR.len]; exact hi0.1
            have hno' : ρ'[i0]? = some Sl.no := by rw [hi0.2]; exact List.getElem?_set_self hi0.1
            exact p2 _ Z H' e (SP.putLL hno' hno (List.getElem?_set_self hs0) hacc hp nd FP')
          · exact p2.elim
        · exact p2.elim
  · exact p1.elim
theorem sd_mkLL (i : Nat) {y : Str} (hc : X.calm = true) (hN : X.N.Nodup) (hT : ∀ t ∈ T, t ∈ own.map (·.2)) (hy : X.N[i]? = some y) (hx : Loc X.env.scope y)
    (hsw : swapsWith (.ListComp elt [⟨tg, iter, [], 0⟩] scope pos) (some (.Name y py)) spos.line X.env = pure false) (hi : ID X G B tg iter oi) (ok : BlkOk X.N X.env.scope scope own)
    (hg : ∀ (s : Shared) (H : Hp) (C : Addr) (cl : List (Str × Addr)) (fp : List Addr) (G : Gm), GD (X.blk s H scope (compEnvC scope cl C X.env) fp) G tg T g)
    (he : ∀ (s : Shared) (H : Hp) (C : Addr) (cl : List (Str × Addr)) (fp : List Addr) (G : Gm), RD (X.blk s H scope (compEnvC scope cl C X.env) fp) G noB elt oe)
    (hs : ∀ x, foldedSetIterable iter X.env x = pure x := by intro _; rfl)
    (hf : X.fn y = true ∨ X.env.scope.names.lookup y = some .local := by first | exact .inl rfl | exact .inr rfl | assumption) : SD X G B (.Assign [.Name y py] (.ListComp elt [⟨tg, iter, [], 0⟩] scope pos) spos) (oMkLL i (own.map (·.2)) oi g oe) :=
by
  have hE : PE X (.ListComp elt [⟨tg, iter, [], 0⟩] scope pos) (tLc (fun σ H R => Run X.K G B (ItR X.K) oi σ H R) (fun v σ H Q => ∃ G, gRun X.K G T g v σ H Q) (fun σ H Q => ∃ G, Run X.K G noB BoR oYes σ H Q) (fun σ H Q => ∃ G, Run X.K G noB (RsR X.K G) oe σ H Q) (own.map (·.2))) :=
    pe_lc hc hN hi ok (fun s H C cl fp => ⟨fun pins s' σ H' v u Q I r ⟨G', w⟩ => (hg s H C cl fp G').run pins s' σ H' v u Q I r w⟩) (fun s H C cl fp => ⟨fun pins s' σ H' Q I ⟨G', w⟩ => (tsd_nil (G := G')).run pins s' σ H' Q I w⟩)
      (fun s H C cl fp => ⟨fun pins s' σ H' Q I ⟨G', w⟩ => (he s H C cl fp G').run pins s' σ H' Q I w⟩) hs
  exact ps_imp (ps_set hN hy hx hE hsw hf) fun D σ H w =>
    run_mkLL i hT (fun G _ _ _ _ w => ⟨G, w⟩) (fun G _ _ _ w => ⟨G, w⟩) (fun G _ _ _ w => ⟨G, w⟩) w
theorem sd_mkLLc (i : Nat) {y : Str} (hc : X.calm = true) (hN : X.N.Nodup) (hT : ∀ t ∈ T, t ∈ own.map (·.2)) (hy : X.N[i]? = some y) (hyl : X.env.scope.names.lookup y = some .local)
    (hsw : swapsWith (.ListComp elt [⟨tg, iter, [], 0⟩] scope pos) (some (.Name y py)) spos.line X.env = pure true) (hi : ID X G B tg iter oi) (ok : BlkOk X.N X.env.scope scope own)
    (hg : ∀ (s : Shared) (H : Hp) (C : Addr) (cl : List (Str × Addr)) (fp : List Addr) (G : Gm), GD (X.blk s H scope (compEnvC scope cl C X.env) fp) G tg T g)
    (he : ∀ (s : Shared) (H : Hp) (C : Addr) (cl : List (Str × Addr)) (fp : List Addr) (G : Gm), RD (X.blk s H scope (compEnvC scope cl C X.env) fp) G noB elt oe)
    (hs : ∀ x, foldedSetIterable iter X.env x = pure x := by intro _; rfl) : SD X G B (.Assign [.Name y py] (.ListComp elt [⟨tg, iter, [], 0⟩] scope pos) spos) (oMkLL i (own.map (·.2)) oi g oe) :=
  ps_imp (ps_setLc hc hN hy hyl hsw hi ok (g := fun v σ H Q => ∃ G, gRun X.K G T g v σ H Q) (tt := fun σ H Q => ∃ G, Run X.K G noB BoR oYes σ H Q) (te := fun σ H Q => ∃ G, Run X.K G noB (RsR X.K G) oe σ H Q)
    (fun s H C cl fp => ⟨fun pins s' σ H' v u Q I r ⟨G', w⟩ => (hg s H C cl fp G').run pins s' σ H' v u Q I r w⟩) (fun s H C cl fp => ⟨fun pins s' σ H' Q I ⟨G', w⟩ => (tsd_nil (G := G')).run pins s' σ H' Q I w⟩)
    (fun s H C cl fp => ⟨fun pins s' σ H' Q I ⟨G', w⟩ => (he s H C cl fp G').run pins s' σ H' Q I w⟩) hs) fun D σ H w =>
    run_mkLL i hT (fun G _ _ _ _ w => ⟨G, w⟩) (fun G _ _ _ w => ⟨G, w⟩) (fun G _ _ _ w => ⟨G, w⟩) w
end
end Ow
namespace Ow
open PySem L2
/-! ### comprehensions with two fors -/
def lcL2 (vs vs1 : List Nat) (g g1 : D → Rho → Option Rho) (ot ot1 : O Bool) (oi1 : O (List D)) (oe : O D) : List D → Rho → M (List D)
  | [], ρ => .ok [] ρ
  | d :: ds, ρ => match g d ρ with
    | none => .st
    | some ρ1 => match ot ρ1 with
      | .ok true ρ2 => match oi1 ρ2 with
        | .ok es ρ3 => match lcL vs1 g1 ot1 oe es (wipeR ρ3 vs1) with
          | .ok ys ρ4 => (lcL2 vs vs1 g g1 ot ot1 oi1 oe ds (wipeR ρ4 vs)).bind fun zs ρ5 => .ok (ys ++ zs) ρ5
          | _ => .st
        | _ => .st
      | .ok false ρ2 => lcL2 vs vs1 g g1 ot ot1 oi1 oe ds (wipeR ρ2 vs)
      | _ => .st
@[simp] theorem lcL2_nil (vs vs1 : List Nat) (g g1 : D → Rho → Option Rho) (ot ot1 : O Bool) (oi1 : O (List D)) (oe : O D) (ρ : Rho) : lcL2 vs vs1 g g1 ot ot1 oi1 oe [] ρ = .ok [] ρ := rfl
theorem lcL2_cons (vs vs1 : List Nat) (g g1 : D → Rho → Option Rho) (ot ot1 : O Bool) (oi1 : O (List D)) (oe : O D) (d : D) (ds : List D) (ρ : Rho) : lcL2 vs vs1 g g1 ot ot1 oi1 oe (d :: ds) ρ = match g d ρ with
    | none => .st
    | some ρ1 => match ot ρ1 with
      | .ok true ρ2 => match oi1 ρ2 with
        | .ok es ρ3 => match lcL vs1 g1 ot1 oe es (wipeR ρ3 vs1) with
          | .ok ys ρ4 => (lcL2 vs vs1 g g1 ot ot1 oi1 oe ds (wipeR ρ4 vs)).bind fun zs ρ5 => .ok (ys ++ zs) ρ5
          | _ => .st
        | _ => .st
      | .ok false ρ2 => lcL2 vs vs1 g g1 ot ot1 oi1 oe ds (wipeR ρ2 vs)
      | _ => .st := rfl
def lcE2 (vs : List Nat) (ρ1 : Rho) (m : M (List D)) : M Rs := match m with
  | .ok ys ρ2 => if ys.length ≤ 16000000 then .ok (.nw (.li ys)) (restR ρ1 ρ2 vs) else .st
  | _ => .st
def lc21 (vs vs1 : List Nat) (g g1 : D → Rho → Option Rho) (ot ot1 : O Bool) (oi1 : O (List D)) (oe : O D) (ds : List D) (ρ1 : Rho) : M Rs :=
  if okW ρ1 vs = true then lcE2 vs ρ1 (lcL2 vs vs1 g g1 ot ot1 oi1 oe ds (wipeR ρ1 vs)) else .st
def oLc2 (vs vs1 : List Nat) (oi : O (List D)) (g g1 : D → Rho → Option Rho) (ot ot1 : O Bool) (oi1 : O (List D)) (oe : O D) : O Rs := fun ρ => (oi ρ).bind (lc21 vs vs1 g g1 ot ot1 oi1 oe)
section
variable {X : Cx} {G : Gm} {B : Wish} {elt tg tg1 iter iter1 c : Expr} {ifs ifs1 : List Expr} {scope : Scope} {own : List (Str × Nat)} {pos spos py : Pos} {T T1 : List Nat} {oi oi1 : O (List D)} {g g1 : D → Rho → Option Rho} {ot ot1 : O Bool} {oe : O D}
theorem run_lc2 {K : PySem.W.Frag} {gg gg1 : TG} {tt tt1 : TT} {te : TE} {wi1 : TI} {vs vs1 : List Nat} {σ : St} {H : Hp} {Q : VK} (hT : ∀ t ∈ T, t ∈ vs) (hT1 : ∀ t ∈ T1, t ∈ vs1) (hvv : ∀ t ∈ vs1, t ∈ vs)
    (hg : ∀ G v σ H Q, gRun K G T g v σ H Q → gg v σ H Q) (ht : ∀ G σ H Q, Run K G noB BoR ot σ H Q → tt σ H Q) (hi1 : ∀ G σ H R, Run K G noB (ItR K) oi1 σ H R → wi1 σ H R)
    (hg1 : ∀ G v σ H Q, gRun K G T1 g1 v σ H Q → gg1 v σ H Q) (ht1 : ∀ G σ H Q, Run K G noB BoR ot1 σ H Q → tt1 σ H Q) (he : ∀ G σ H Q, Run K G noB (PuR K) oe σ H Q → te σ H Q)
    (w : Run K G B (RsR K G) (oLc2 vs vs1 oi g g1 ot ot1 oi1 oe) σ H Q) : tLc2 (fun σ H R => Run K G B (ItR K) oi σ H R) gg tt wi1 gg1 tt1 te vs vs1 σ H Q := by
  refine run_imp (R := ItR K) (C := fun (J : It) H1 => ∀ D, H1 D = none → ∃ W : Nat → Nat → Hp → Prop, (∃ m, W 0 m (upd H1 D (.lst []))) ∧ ∀ i m H, W i m H →
    (J.stop i H ∧ Q (.ref D) H) ∨ (J.go i H ∧ ∃ Nx : Hp → Prop, (∀ H', Nx H' → ∃ m', m' < m ∧ W (i + 1) m' H') ∧ ∀ x H', J.yld i H x H' → gg x (wipe σ vs) H' fun σ2 H2 => wipe σ2 vs = wipe σ vs ∧ tt σ2 H2 fun b H3 =>
      if b = true then wi1 σ2 H3 fun J1 H4 => ∃ W1 : Nat → Nat → Hp → Prop, (∃ m, W1 0 m H4) ∧ ∀ j k H, W1 j k H →
        (J1.stop j H ∧ Nx H) ∨ (J1.go j H ∧ ∃ Nx1 : Hp → Prop, (∀ H', Nx1 H' → ∃ k', k' < k ∧ W1 (j + 1) k' H') ∧ ∀ x H', J1.yld j H x H' → gg1 x (wipe σ2 vs1) H' fun σ3 H5 => wipe σ3 vs1 = wipe σ2 vs1 ∧ tt1 σ3 H5 fun b H6 =>
          if b = true then te σ3 H6 fun y H7 => ∃ acc, H7 D = some (.lst acc) ∧ acc.length < sizeLine ∧ Nx1 (upd H7 D (.lst (acc ++ [y]))) else Nx1 H6)
       else Nx H3)) w fun J ds ρ1 Z1 H1 S1 wd p1 => ?_
  intro L hL
  unfold lc21 at p1
  split at p1
  · rename_i hw
    cases hm : lcL2 vs vs1 g g1 ot ot1 oi1 oe ds (wipeR ρ1 vs) with
    | st => rw [hm] at p1; exact p1.elim
    | ex x ρ2 => rw [hm] at p1; exact p1.elim
    | ok ysF ρF =>
      rw [hm] at p1
      unfold lcE2 at p1
      dsimp only at p1
      split at p1
      · rename_i hlenF
        have p2 : Post K G B (RsR K G) σ Z1 (.ok (.nw (.li ysF)) (restR ρ1 ρF vs)) Q := p1
        obtain ⟨Gd, Y, wk, h1, h2⟩ := wd
        have zL : Z1 L = none := S1.fresh hL
        have gL : G.H0 L = none := S1.freshIn hL
        have z0L : G.Z0 L = none := none_of_same S1.zz zL
        have nS1 : NewA ρ1 σ H1 L := S1.newA hL
        have nl : ¬ G.lent L := S1.notLent nS1.1
        have hv : ∀ v ∈ vs, ∀ x, (v, x) ∉ G.pins := fun v hv x hx => by
          obtain ⟨_, c, hc⟩ := S1.pin v x hx
          have q := List.all_eq_true.mp hw v hv
          rw [hc] at q
          cases q
        have hv1 : ∀ v ∈ vs1, ∀ x, (v, x) ∉ G.pins := fun v h => hv v (hvv v h)
        have Sw : Sim K G Z1 (wipeR ρ1 vs) (wipe σ vs) (upd H1 L (.lst [])) := (S1.grow (.loose S1.zh hL (.lst []))).wipes hv
        have nSw : NewA (wipeR ρ1 vs) (wipe σ vs) (upd H1 L (.lst [])) L := (nS1.heap S1.lx (H' := upd H1 L (.lst [])) fun b o f ho => by rw [upd_ne]; exact ho; intro e; subst e; rw [hL] at ho; cases ho).wipe
        -- what holds ahead of a turn
        let Pv : Nat → Hp → Prop := fun i H => ∃ Z ρ acc accV ys, Sim K G Z ρ (wipe σ vs) H ∧ Same Z1 Z ∧ H L = some (.lst accV) ∧ RpAll K Z accV acc ∧ Z L = none ∧ NewA ρ (wipe σ vs) H L ∧
          lcL2 vs vs1 g g1 ot ot1 oi1 oe (ds.drop i) ρ = .ok ys ρF ∧ ysF = acc ++ ys
        refine ⟨fun i m H => m = ds.length - i ∧ i ≤ ds.length ∧ Pv i H, ⟨ds.length, by simp, Nat.zero_le _, Z1, wipeR ρ1 vs, [], [], ysF, Sw, .refl _, upd_same, .nil, zL, nSw, by rw [List.drop_zero]; exact hm, rfl⟩, ?_⟩
        rintro i m H' ⟨rfl, hin, Z, ρ, acc, accV, ys, S, e, hacc, racc, zz, nn, hlc, hys⟩
        have gd := h1 H' (e.trans S.zh)
        by_cases hi : i < ds.length
        · refine .inr ⟨wk.goes i H' hi gd, Pv (i + 1), fun H'' p' => ⟨ds.length - (i + 1), by omega, rfl, hi, p'⟩, fun x H2 yy => ?_⟩
          have y := wk.yields i H' x H2 hi gd yy
          obtain ⟨d, Z', hd, gr, rx⟩ := h2 i H' x H2 Z hi e S.zh y
          have hdr : ds.drop i = d :: ds.drop (i + 1) := by
            rw [List.drop_eq_getElem_cons hi]
            have q := (List.getElem?_eq_some_iff.mp hd).2
            rw [q]
          rw [hdr, lcL2_cons] at hlc
          have S' := S.grow gr
          have hacc' : H2 L = some (.lst accV) := gr.h _ _ hacc
          have zz' : Z' L = none := by
            cases q : Z' L with
            | none => rfl
            | some u =>
              rcases gr.n L u q with q' | q'
              · rw [zz] at q'; cases q'
              · rw [hacc] at q'; cases q'
          have nn' : NewA ρ (wipe σ vs) H2 L := nn.heap S.lx fun b o _ ho => gr.h _ _ ho
          have SG := S'.toGhost hacc' zz' nn'
          cases hg1' : g d ρ with
          | none => rw [hg1'] at hlc; cases hlc
          | some ρ2 =>
            rw [hg1'] at hlc
            dsimp only at hlc
            refine hg (G.ghost L (.lst accV)) _ _ _ _ ⟨Z', ρ, d, ρ2, SG, rx, hg1', fun σ2 Z2 H3 hl2 hj2 e2 S2 => ?_⟩
            have hw2 : wipe σ2 vs = wipe σ vs := by
              rw [wipe_same hl2 fun j hj => hj2 j fun m => hj (hT j m), wipe_wipe]
            refine ⟨hw2, ht (G.ghost L (.lst accV)) _ _ _ ⟨Z2, ρ2, S2, ?_⟩⟩
            cases ht1' : ot ρ2 with
            | st => rw [ht1'] at hlc; cases hlc
            | ex x ρ3 => rw [ht1'] at hlc; cases hlc
            | ok b ρ3 =>
              rw [ht1'] at hlc
              intro b' Z3 H4 e3 S3 rb
              have rb : b' = b := rb
              subst rb
              cases b' with
              | false =>
                dsimp only at hlc
                rw [if_neg Bool.false_ne_true]
                obtain ⟨S4, h4, z4, n4⟩ := S3.ofGhost gL z0L nl
                have S5 := S4.wipes hv
                rw [hw2] at S5
                exact ⟨Z3, wipeR ρ3 vs, acc, accV, ys, S5, e.trans (gr.z.trans (e2.trans e3)), h4, racc.mono (gr.z.trans (e2.trans e3)), z4, (by have q := n4.wipe (vs := vs); rw [hw2] at q; exact q), hlc, hys⟩
              | true =>
                dsimp only at hlc
                rw [if_pos rfl]
                refine hi1 (G.ghost L (.lst accV)) _ _ _ ⟨Z3, ρ3, S3, ?_⟩
                cases hoi : oi1 ρ3 with
                | st => rw [hoi] at hlc; cases hlc
                | ex x ρ4 => rw [hoi] at hlc; cases hlc
                | ok es ρ4 =>
                  rw [hoi] at hlc
                  dsimp only at hlc
                  intro J1 Z4 H5 e4 S4 wd1
                  obtain ⟨Gd1, Y1, wk1, k1, k2⟩ := wd1
                  obtain ⟨S5, h5, z5, n5⟩ := S4.ofGhost gL z0L nl
                  have ea := gr.z.trans (e2.trans (e3.trans e4))
                  cases hin1 : lcL vs1 g1 ot1 oe es (wipeR ρ4 vs1) with
                  | st => rw [hin1] at hlc; cases hlc
                  | ex x ρ5 => rw [hin1] at hlc; cases hlc
                  | ok ys1 ρ5 =>
                    rw [hin1] at hlc
                    dsimp only at hlc
                    cases hrest : lcL2 vs vs1 g g1 ot ot1 oi1 oe (ds.drop (i + 1)) (wipeR ρ5 vs) with
                    | st => rw [hrest] at hlc; cases hlc
                    | ex x ρ6 => rw [hrest] at hlc; cases hlc
                    | ok zs ρ6 =>
                      rw [hrest] at hlc
                      cases hlc
                      have hacl : acc.length + ys1.length ≤ 16000000 := by
                        rw [hys] at hlenF
                        simp at hlenF
                        omega
                      let P1 : Nat → Hp → Prop := fun j H => ∃ Z ρ acc1 accV1 ys2, Sim K G Z ρ (wipe σ2 vs1) H ∧ Same Z4 Z ∧ H L = some (.lst accV1) ∧ RpAll K Z accV1 acc1 ∧ Z L = none ∧ NewA ρ (wipe σ2 vs1) H L ∧
                        lcL vs1 g1 ot1 oe (es.drop j) ρ = .ok ys2 ρ5 ∧ acc ++ ys1 = acc1 ++ ys2
                      have S6 := S5.wipes hv1
                      have n6 := n5.wipe (vs := vs1)
                      refine ⟨fun j k H => k = es.length - j ∧ j ≤ es.length ∧ P1 j H, ⟨es.length, by simp, Nat.zero_le _, Z4, wipeR ρ4 vs1, acc, accV, ys1, S6, .refl _, h5, racc.mono ea, z5, n6, by rw [List.drop_zero]; exact hin1, rfl⟩, ?_⟩
                      rintro j k H6 ⟨rfl, hjn, Z6, ρ6, acc1, accV1, ys2, S7, e7, hacc1, racc1, zz1, nn1, hlc1, hys1⟩
                      have gd1 := k1 H6 (e7.trans S7.zh)
                      by_cases hj : j < es.length
                      · refine .inr ⟨wk1.goes j H6 hj gd1, P1 (j + 1), fun H'' p' => ⟨es.length - (j + 1), by omega, rfl, hj, p'⟩, fun x1 H7 yy1 => ?_⟩
                        have y1 := wk1.yields j H6 x1 H7 hj gd1 yy1
                        obtain ⟨d1, Z7, hd1, gr1, rx1⟩ := k2 j H6 x1 H7 Z6 hj e7 S7.zh y1
                        have hdr1 : es.drop j = d1 :: es.drop (j + 1) := by
                          rw [List.drop_eq_getElem_cons hj]
                          have q := (List.getElem?_eq_some_iff.mp hd1).2
                          rw [q]
                        rw [hdr1, lcL_cons] at hlc1
                        have S8 := S7.grow gr1
                        have hacc8 : H7 L = some (.lst accV1) := gr1.h _ _ hacc1
                        have zz8 : Z7 L = none := by
                          cases q : Z7 L with
                          | none => rfl
                          | some u =>
                            rcases gr1.n L u q with q' | q'
                            · rw [zz1] at q'; cases q'
                            · rw [hacc1] at q'; cases q'
                        have nn8 : NewA ρ6 (wipe σ2 vs1) H7 L := nn1.heap S7.lx fun b o _ ho => gr1.h _ _ ho
                        have SG8 := S8.toGhost hacc8 zz8 nn8
                        cases hgg : g1 d1 ρ6 with
                        | none => rw [hgg] at hlc1; cases hlc1
                        | some ρ7 =>
                          rw [hgg] at hlc1
                          dsimp only at hlc1
                          refine hg1 (G.ghost L (.lst accV1)) _ _ _ _ ⟨Z7, ρ6, d1, ρ7, SG8, rx1, hgg, fun σ3 Z8 H8 hl3 hj3 e8 S9 => ?_⟩
                          have hw3 : wipe σ3 vs1 = wipe σ2 vs1 := by
                            rw [wipe_same hl3 fun j hj => hj3 j fun m => hj (hT1 j m), wipe_wipe]
                          refine ⟨hw3, ht1 (G.ghost L (.lst accV1)) _ _ _ ⟨Z8, ρ7, S9, ?_⟩⟩
                          cases htt : ot1 ρ7 with
                          | st => rw [htt] at hlc1; cases hlc1
                          | ex x ρ8 => rw [htt] at hlc1; cases hlc1
                          | ok b ρ8 =>
                            rw [htt] at hlc1
                            intro b' Z9 H9 e9 S10 rb
                            have rb : b' = b := rb
                            subst rb
                            cases b' with
                            | false =>
                              dsimp only at hlc1
                              rw [if_neg Bool.false_ne_true]
                              obtain ⟨S11, h11, z11, n11⟩ := S10.ofGhost gL z0L nl
                              have S12 := S11.wipes hv1
                              rw [hw3] at S12
                              exact ⟨Z9, wipeR ρ8 vs1, acc1, accV1, ys2, S12, e7.trans (gr1.z.trans (e8.trans e9)), h11, racc1.mono (gr1.z.trans (e8.trans e9)), z11, (by have q := n11.wipe (vs := vs1); rw [hw3] at q; exact q), hlc1, hys1⟩
                            | true =>
                              dsimp only at hlc1
                              rw [if_pos rfl]
                              refine he (G.ghost L (.lst accV1)) _ _ _ ⟨Z9, ρ8, S10, ?_⟩
                              cases hoe : oe ρ8 with
                              | st => rw [hoe] at hlc1; cases hlc1
                              | ex x ρ9 => rw [hoe] at hlc1; cases hlc1
                              | ok y2 ρ9 =>
                                rw [hoe] at hlc1
                                dsimp only at hlc1
                                intro yv Z10 H10 e10 S11 ry
                                have ry : Rp K Z10 yv y2 := ry
                                obtain ⟨S12, h12, z12, n12⟩ := S11.ofGhost gL z0L nl
                                cases hr : lcL vs1 g1 ot1 oe (es.drop (j + 1)) (wipeR ρ9 vs1) with
                                | st => rw [hr] at hlc1; cases hlc1
                                | ex x ρ10 => rw [hr] at hlc1; cases hlc1
                                | ok ys3 ρ10 =>
                                  rw [hr] at hlc1
                                  cases hlc1
                                  have eb := gr1.z.trans (e8.trans (e9.trans e10))
                                  have hal' : accV1.length = acc1.length := racc1.length
                                  have hll := congrArg List.length hys1
                                  simp at hll
                                  refine ⟨accV1, h12, lim_lt (by omega), ?_⟩
                                  have S13 := S12.wipes hv1
                                  have n13 : NewA (wipeR ρ9 vs1) (wipe σ2 vs1) H10 L := by have q := n12.wipe (vs := vs1); rw [hw3] at q; exact q
                                  rw [hw3] at S13
                                  have F13 : FP K G Z10 (wipeR ρ9 vs1) (wipe σ2 vs1) H10 [L] := by
                                    refine ⟨fun b hb => ?_, fun b hb => ?_, fun b hb => ?_, fun b hb => ?_⟩ <;> (rw [List.mem_singleton] at hb; subst hb)
                                    · exact ⟨_, h12⟩
                                    · exact z12
                                    · exact gL
                                    · exact n13
                                  obtain ⟨S14, F14⟩ := S13.side F13 (b := L) List.mem_cons_self (.lst (accV1 ++ [yv]))
                                  exact ⟨Z10, wipeR ρ9 vs1, acc1 ++ [y2], accV1 ++ [yv], ys3, S14, e7.trans eb, upd_same, (racc1.mono eb).append (.one ry), z12, F14.n L List.mem_cons_self, hr, by rw [hys1]; simp⟩
                      · have hje : j = es.length := by omega
                        subst hje
                        refine .inl ⟨wk1.stops H6 gd1, ?_⟩
                        rw [List.drop_length] at hlc1
                        cases hlc1
                        rw [List.append_nil] at hys1
                        have S8 := S7.wipes hv
                        have n8 := nn1.wipe (vs := vs)
                        have hw3 : wipe (wipe σ2 vs1) vs = wipe σ vs := by
                          rw [← hw2]
                          refine wipe_same (by rw [wipe_length]) fun j hj => ?_
                          rw [wipe_get, if_neg fun m => hj (hvv j m)]
                        rw [hw3] at S8 n8
                        exact ⟨Z6, wipeR ρ5 vs, acc1, accV1, zs, S8, e.trans (ea.trans e7), hacc1, racc1, zz1, n8, hrest, by rw [hys, ← hys1, List.append_assoc]⟩
        · have hie : i = ds.length := by omega
          subst hie
          refine .inl ⟨wk.stops H' gd, ?_⟩
          rw [List.drop_length] at hlc
          cases hlc
          rw [List.append_nil] at hys
          subst hys
          have SR := S1.rests S e hw
          have F : FP K G Z ρF (wipe σ vs) H' [L] := by
            refine ⟨fun b hb => ?_, fun b hb => ?_, fun b hb => ?_, fun b hb => ?_⟩ <;> (rw [List.mem_singleton] at hb; subst hb)
            · exact ⟨_, hacc⟩
            · exact zz
            · exact gL
            · exact nn
          have FR := F.rests (H1 := H1) (ρ1 := ρ1) (by rw [S1.len, S.len, wipe_length]) hw
          exact p2 (.ref L) Z H' e SR ⟨L, .lst accV, rfl, hacc, racc, zz, gL, FR.n L List.mem_cons_self⟩
      · exact p1.elim
  · exact p1.elim
theorem rd_lc2 (vs1 : List Nat) (hc : X.calm = true) (hN : X.N.Nodup) (hT : ∀ t ∈ T, t ∈ own.map (·.2)) (hT1 : ∀ t ∈ T1, t ∈ vs1) (hvv : ∀ t ∈ vs1, t ∈ own.map (·.2)) (hi : ID X G B tg iter oi) (ok : BlkOk X.N X.env.scope scope own)
    (hg : ∀ (s : Shared) (H : Hp) (C : Addr) (cl : List (Str × Addr)) (fp : List Addr) (G : Gm), GD (X.blk s H scope (compEnvC scope cl C X.env) fp) G tg T g)
    (ht : ∀ (s : Shared) (H : Hp) (C : Addr) (cl : List (Str × Addr)) (fp : List Addr) (G : Gm), TSD (X.blk s H scope (compEnvC scope cl C X.env) fp) G noB ifs ot)
    (hi1 : ∀ (s : Shared) (H : Hp) (C : Addr) (cl : List (Str × Addr)) (fp : List Addr) (G : Gm), ID (X.blk s H scope (compEnvC scope cl C X.env) fp) G noB tg1 iter1 oi1)
    (hg1 : ∀ (s : Shared) (H : Hp) (C : Addr) (cl : List (Str × Addr)) (fp : List Addr) (G : Gm), GD (X.blk s H scope (compEnvC scope cl C X.env) fp) G tg1 T1 g1)
    (ht1 : ∀ (s : Shared) (H : Hp) (C : Addr) (cl : List (Str × Addr)) (fp : List Addr) (G : Gm), TSD (X.blk s H scope (compEnvC scope cl C X.env) fp) G noB ifs1 ot1)
    (he : ∀ (s : Shared) (H : Hp) (C : Addr) (cl : List (Str × Addr)) (fp : List Addr) (G : Gm), PD (X.blk s H scope (compEnvC scope cl C X.env) fp) G noB elt oe)
    (hs : ∀ x, foldedSetIterable iter X.env x = pure x := by intro _; rfl) (hs1 : ∀ env x, foldedSetIterable iter1 env x = pure x := by intro _ _; rfl) :
    RD X G B (.ListComp elt [⟨tg, iter, ifs, 0⟩, ⟨tg1, iter1, ifs1, 0⟩] scope pos) (oLc2 (own.map (·.2)) vs1 oi g g1 ot ot1 oi1 oe) := by
  have hE : PE X (.ListComp elt [⟨tg, iter, ifs, 0⟩, ⟨tg1, iter1, ifs1, 0⟩] scope pos) (tLc2 (fun σ H R => Run X.K G B (ItR X.K) oi σ H R) (fun v σ H Q => ∃ G, gRun X.K G T g v σ H Q) (fun σ H Q => ∃ G, Run X.K G noB BoR ot σ H Q)
      (fun σ H R => ∃ G, Run X.K G noB (ItR X.K) oi1 σ H R) (fun v σ H Q => ∃ G, gRun X.K G T1 g1 v σ H Q) (fun σ H Q => ∃ G, Run X.K G noB BoR ot1 σ H Q) (fun σ H Q => ∃ G, Run X.K G noB (PuR X.K) oe σ H Q) (own.map (·.2)) vs1) :=
    pe_lc2 hc hN hi ok hvv (fun s H C cl fp => ⟨fun pins s' σ H' v u Q I r ⟨G', w⟩ => (hg s H C cl fp G').run pins s' σ H' v u Q I r w⟩) (fun s H C cl fp => ⟨fun pins s' σ H' Q I ⟨G', w⟩ => (ht s H C cl fp G').run pins s' σ H' Q I w⟩)
      (fun s H C cl fp => ⟨fun pins s' σ H' R I ⟨G', w⟩ => (hi1 s H C cl fp G').run pins s' σ H' R I w⟩) (fun s H C cl fp => ⟨fun pins s' σ H' v u Q I r ⟨G', w⟩ => (hg1 s H C cl fp G').run pins s' σ H' v u Q I r w⟩) (fun s H C cl fp => ⟨fun pins s' σ H' Q I ⟨G', w⟩ => (ht1 s H C cl fp G').run pins s' σ H' Q I w⟩)
      (fun s H C cl fp => ⟨fun pins s' σ H' Q I ⟨G', w⟩ => (he s H C cl fp G').run pins s' σ H' Q I w⟩) hs hs1
  exact pe_imp hE fun σ H Q w => run_lc2 hT hT1 hvv (fun G _ _ _ _ w => ⟨G, w⟩) (fun G _ _ _ w => ⟨G, w⟩) (fun G _ _ _ w => ⟨G, w⟩) (fun G _ _ _ _ w => ⟨G, w⟩) (fun G _ _ _ w => ⟨G, w⟩) (fun G _ _ _ w => ⟨G, w⟩) w
theorem sd_setLc2 (i : Nat) (vs1 : List Nat) {y : Str} (hc : X.calm = true) (hN : X.N.Nodup) (hT : ∀ t ∈ T, t ∈ own.map (·.2)) (hT1 : ∀ t ∈ T1, t ∈ vs1) (hvv : ∀ t ∈ vs1, t ∈ own.map (·.2)) (hy : X.N[i]? = some y) (hyl : X.env.scope.names.lookup y = some .local)
    (hsw : swapsWith (.ListComp elt [⟨tg, iter, ifs, 0⟩, ⟨tg1, iter1, ifs1, 0⟩] scope pos) (some (.Name y py)) spos.line X.env = pure true) (hi : ID X G B tg iter oi) (ok : BlkOk X.N X.env.scope scope own)
    (hg : ∀ (s : Shared) (H : Hp) (C : Addr) (cl : List (Str × Addr)) (fp : List Addr) (G : Gm), GD (X.blk s H scope (compEnvC scope cl C X.env) fp) G tg T g)
    (ht : ∀ (s : Shared) (H : Hp) (C : Addr) (cl : List (Str × Addr)) (fp : List Addr) (G : Gm), TSD (X.blk s H scope (compEnvC scope cl C X.env) fp) G noB ifs ot)
    (hi1 : ∀ (s : Shared) (H : Hp) (C : Addr) (cl : List (Str × Addr)) (fp : List Addr) (G : Gm), ID (X.blk s H scope (compEnvC scope cl C X.env) fp) G noB tg1 iter1 oi1)
    (hg1 : ∀ (s : Shared) (H : Hp) (C : Addr) (cl : List (Str × Addr)) (fp : List Addr) (G : Gm), GD (X.blk s H scope (compEnvC scope cl C X.env) fp) G tg1 T1 g1)
    (ht1 : ∀ (s : Shared) (H : Hp) (C : Addr) (cl : List (Str × Addr)) (fp : List Addr) (G : Gm), TSD (X.blk s H scope (compEnvC scope cl C X.env) fp) G noB ifs1 ot1)
    (he : ∀ (s : Shared) (H : Hp) (C : Addr) (cl : List (Str × Addr)) (fp : List Addr) (G : Gm), PD (X.blk s H scope (compEnvC scope cl C X.env) fp) G noB elt oe)
    (hs : ∀ x, foldedSetIterable iter X.env x = pure x := by intro _; rfl) (hs1 : ∀ env x, foldedSetIterable iter1 env x = pure x := by intro _ _; rfl) :
    SD X G B (.Assign [.Name y py] (.ListComp elt [⟨tg, iter, ifs, 0⟩, ⟨tg1, iter1, ifs1, 0⟩] scope pos) spos) (oSet i (oLc2 (own.map (·.2)) vs1 oi g g1 ot ot1 oi1 oe)) := by
  have hE : PS X (.Assign [.Name y py] (.ListComp elt [⟨tg, iter, ifs, 0⟩, ⟨tg1, iter1, ifs1, 0⟩] scope pos) spos) (tAsg (tLc2 (fun σ H R => Run X.K G B (ItR X.K) oi σ H R) (fun v σ H Q => ∃ G, gRun X.K G T g v σ H Q) (fun σ H Q => ∃ G, Run X.K G noB BoR ot σ H Q)
      (fun σ H R => ∃ G, Run X.K G noB (ItR X.K) oi1 σ H R) (fun v σ H Q => ∃ G, gRun X.K G T1 g1 v σ H Q) (fun σ H Q => ∃ G, Run X.K G noB BoR ot1 σ H Q) (fun σ H Q => ∃ G, Run X.K G noB (PuR X.K) oe σ H Q) (own.map (·.2)) vs1) (gName i)) :=
    ps_setLc2 hc hN hy hyl hsw hi ok hvv (fun s H C cl fp => ⟨fun pins s' σ H' v u Q I r ⟨G', w⟩ => (hg s H C cl fp G').run pins s' σ H' v u Q I r w⟩) (fun s H C cl fp => ⟨fun pins s' σ H' Q I ⟨G', w⟩ => (ht s H C cl fp G').run pins s' σ H' Q I w⟩)
      (fun s H C cl fp => ⟨fun pins s' σ H' R I ⟨G', w⟩ => (hi1 s H C cl fp G').run pins s' σ H' R I w⟩) (fun s H C cl fp => ⟨fun pins s' σ H' v u Q I r ⟨G', w⟩ => (hg1 s H C cl fp G').run pins s' σ H' v u Q I r w⟩) (fun s H C cl fp => ⟨fun pins s' σ H' Q I ⟨G', w⟩ => (ht1 s H C cl fp G').run pins s' σ H' Q I w⟩)
      (fun s H C cl fp => ⟨fun pins s' σ H' Q I ⟨G', w⟩ => (he s H C cl fp G').run pins s' σ H' Q I w⟩) hs hs1
  exact ps_imp hE fun D σ H w => run_lc2 (Q := fun x H1 => gName i x σ H1 D.nx) hT hT1 hvv (fun G _ _ _ _ w => ⟨G, w⟩) (fun G _ _ _ w => ⟨G, w⟩) (fun G _ _ _ w => ⟨G, w⟩) (fun G _ _ _ _ w => ⟨G, w⟩) (fun G _ _ _ w => ⟨G, w⟩) (fun G _ _ _ w => ⟨G, w⟩) (asg_name w)
end
end Ow
namespace Ow
open PySem L2
/-! ### plain programs with lists of own lists, on a written state -/
section
variable (z : Sl) (ρ : Rho)
@[simp] theorem ap_frzLL (k : Nat) : oFrzLL k (z :: ρ) = match (z :: ρ)[k]? with
  | some (.ll (.li xss)) => .ok (.list (xss.map PyData.list)) ((cutAl k (z :: ρ)).set k (.pu (.list (xss.map PyData.list))))
  | _ => .st := rfl
@[simp] theorem ap_lenLL (k : Nat) : oLenLL k (z :: ρ) = match (z :: ρ)[k]? with
  | some (.ll (.li xss)) => .ok (.int xss.length) (z :: ρ)
  | _ => .st := rfl
@[simp] theorem ap_appLL (k : Nat) (oi oe : O D) : oAppLL k oi oe (z :: ρ) = match (z :: ρ)[k]? with
  | some (.ll (.li _)) => (oi (z :: ρ)).bind (appLL1 k oe)
  | _ => .st := rfl
@[simp] theorem appLL1_eq (k : Nat) (oe : O D) (n : Int) : appLL1 k oe (.int n) (z :: ρ) = match (z :: ρ)[k]? with
  | some (.ll (.li xss)) => (match ixN xss.length n with
    | some j => appLL2 k j xss (oe ((cutAl k (z :: ρ)).set k .no))
    | none => .st)
  | _ => .st := by
  unfold appLL1
  cases (z :: ρ)[k]? with
  | none => rfl
  | some s =>
    cases s with
    | ll m => cases m <;> rfl
    | _ => rfl
@[simp] theorem appLL2_eq (k j : Nat) (xss : List (List D)) (d : D) : appLL2 k j xss (.ok d (z :: ρ)) = match (z :: ρ)[k]?, noLL (z :: ρ), xss[j]? with
    | some .no, true, some xs => if xs.length < 16000000 then .ok .none ((cutAl k (z :: ρ)).set k (.ll (.li (xss.set j (xs ++ [d]))))) else .st
    | _, _, _ => .st := rfl
@[simp] theorem ap_alias (i k : Nat) (oi : O D) : oAlias i k oi (z :: ρ) = match (z :: ρ)[k]? with
  | some (.ll (.li _)) => (oi (z :: ρ)).bindS (alias1 i k)
  | _ => .st := rfl
@[simp] theorem alias1_eq (i k : Nat) (n : Int) : alias1 i k (.int n) (z :: ρ) = match (z :: ρ)[k]? with
  | some (.ll (.li xss)) => (match ixN xss.length n with
    | some j => if i ≠ k then nx1 (setSl (z :: ρ) i (.al k j)) else .st
    | none => .st)
  | _ => .st := by
  unfold alias1
  cases (z :: ρ)[k]? with
  | none => rfl
  | some s =>
    cases s with
    | ll m => cases m <;> rfl
    | _ => rfl
@[simp] theorem ap_alK (i : Nat) (f : Ct → List D → Option (Ct × D)) (oas : O (List D)) : oAlK i f oas (z :: ρ) = match (z :: ρ)[i]? with
  | some (.al k j) => (match (z :: ρ)[k]? with
    | some (.ll (.li _)) => (oas (z :: ρ)).bind (alK1 i f)
    | _ => .st)
  | _ => .st := rfl
@[simp] theorem alK1_eq (i : Nat) (f : Ct → List D → Option (Ct × D)) (ds : List D) : alK1 i f ds (z :: ρ) = match (z :: ρ)[i]? with
  | some (.al k j) => (match (z :: ρ)[k]? with
    | some (.ll (.li xss)) => (match xss[j]? with
      | some xs => (match f (.li xs) ds with
        | some (.li ys, d) => .ok d ((z :: ρ).set k (.ll (.li (xss.set j ys))))
        | _ => .st)
      | none => .st)
    | _ => .st)
  | _ => .st := rfl
@[simp] theorem ap_stAl (i : Nat) (ov oi : O D) : oStAl i ov oi (z :: ρ) = (ov (z :: ρ)).bindS fun d ρ1 => match ρ1[i]? with
  | some (.al k j) => (match ρ1[k]? with
    | some (.ll (.li _)) => (oi ρ1).bindS (stAl1 i d)
    | _ => .st)
  | _ => .st := rfl
@[simp] theorem stAl1_eq (i : Nat) (d iv : D) : stAl1 i d iv (z :: ρ) = match (z :: ρ)[i]? with
  | some (.al k j) => (match (z :: ρ)[k]? with
    | some (.ll (.li xss)) => (match xss[j]? with
      | some xs => (match stL xs iv d with
        | some (.li ys) => .nx ((z :: ρ).set k (.ll (.li (xss.set j ys))))
        | _ => .st)
      | none => .st)
    | _ => .st)
  | _ => .st := rfl
@[simp] theorem ap_appPop (k i q : Nat) (oi : O D) : oAppPop k i q oi (z :: ρ) = match (z :: ρ)[k]? with
  | some (.ll (.li _)) => (oi (z :: ρ)).bind (appPop1 k i q)
  | _ => .st := rfl
@[simp] theorem appPop1_eq (k i q : Nat) (n : Int) : appPop1 k i q (.int n) (z :: ρ) = match (z :: ρ)[k]? with
  | some (.ll (.li xss)) => (match ixN xss.length n, (z :: ρ)[i]?, (z :: ρ)[q]? with
    | some j, some (.al k' m), some (.pu (.int p)) => if k' = k then appPop3 k j m p xss (z :: ρ) else .st
    | _, _, _ => .st)
  | _ => .st := by
  unfold appPop1
  cases (z :: ρ)[k]? with
  | none => rfl
  | some s =>
    cases s with
    | ll m => cases m <;> rfl
    | _ => rfl
@[simp] theorem ap_mkLL (i : Nat) (vs : List Nat) (oi : O (List D)) (g : D → Rho → Option Rho) (oe : O Rs) : oMkLL i vs oi g oe (z :: ρ) = (oi (z :: ρ)).bindS (mkLL1 i vs g oe) := rfl
theorem mkLL1_eq (i : Nat) (vs : List Nat) (g : D → Rho → Option Rho) (oe : O Rs) (ds : List D) (ρ1 : Rho) : mkLL1 i vs g oe ds ρ1 =
  if okW ρ1 vs = true ∧ ds.length ≤ 16000000 then mkLL2 i vs ρ1 (lcL vs g oYes (oNewL oe) ds (wipeR ρ1 vs)) else .st := rfl
@[simp] theorem mkLL2_ok (i : Nat) (vs : List Nat) (ρ1 ρ2 : Rho) (ys : List D) : mkLL2 i vs ρ1 (.ok ys ρ2) = match listsOf ys with
    | some xss => mkLL3 i xss (setSl (restR ρ1 ρ2 vs) i .no)
    | none => .st := rfl
@[simp] theorem mkLL3_some (i : Nat) (xss : List (List D)) (ρ : Rho) : mkLL3 i xss (some ρ) = if noLL ρ = true then .nx ((cutAl i ρ).set i (.ll (.li xss))) else .st := rfl
@[simp] theorem ap_newL (oe : O Rs) : oNewL oe (z :: ρ) = (oe (z :: ρ)).bind newL1 := rfl
@[simp] theorem ap_lc2 (vs vs1 : List Nat) (oi : O (List D)) (g g1 : D → Rho → Option Rho) (ot ot1 : O Bool) (oi1 : O (List D)) (oe : O D) : oLc2 vs vs1 oi g g1 ot ot1 oi1 oe (z :: ρ) = (oi (z :: ρ)).bind (lc21 vs vs1 g g1 ot ot1 oi1 oe) := rfl
theorem lc21_eq (vs vs1 : List Nat) (g g1 : D → Rho → Option Rho) (ot ot1 : O Bool) (oi1 : O (List D)) (oe : O D) (ds : List D) (ρ1 : Rho) : lc21 vs vs1 g g1 ot ot1 oi1 oe ds ρ1 =
  if okW ρ1 vs = true then lcE2 vs ρ1 (lcL2 vs vs1 g g1 ot ot1 oi1 oe ds (wipeR ρ1 vs)) else .st := rfl
@[simp] theorem lcE2_ok (vs : List Nat) (ρ1 ρ2 : Rho) (ys : List D) : lcE2 vs ρ1 (.ok ys ρ2) = if ys.length ≤ 16000000 then .ok (.nw (.li ys)) (restR ρ1 ρ2 vs) else .st := rfl
end
end Ow
namespace Ow
open PySem L2
/-! ### a dict of dicts of lists: built by setdefault, then still -/
theorem cutAl_set (i k : Nat) : ∀ (l : Rho), cutAl i (l.set k .no) = (cutAl i l).set k .no := by
  intro l
  induction l generalizing k with
  | nil => rfl
  | cons s l ih =>
    cases k with
    | zero => cases s <;> rfl
    | succ k => cases s <;> simp [ih k]
theorem cutAl_cut (i : Nat) : ∀ (l : Rho), cutAl i (cutAl i l) = cutAl i l := by
  intro l
  induction l with
  | nil => rfl
  | cons s l ih =>
    cases s with
    | al k j =>
      rw [cutAl_al]
      by_cases h : k = i
      · rw [if_pos h, cutAl_no, ih]
      · rw [if_neg h, cutAl_al, if_neg h, ih]
    | _ => simp [ih]
theorem noLL_of : ∀ {ρ : Rho}, (∀ (j : Nat) n, ρ[j]? ≠ some (Sl.ll n)) → noLL ρ = true
  | [], _ => rfl
  | s :: ρ, h => by
    have ih := noLL_of (ρ := ρ) fun j n e => h (j + 1) n (by simpa using e)
    cases s with
    | ll n => exact absurd rfl (h 0 n)
    | _ => exact ih
section
variable {K : PySem.W.Frag} {G : Gm} {Z : Hp} {ρ ρ' : Rho} {σ : St} {H H' : Hp} {k : Nat} {n n' : Nt} {v : V} {fs fs' : List Addr}
theorem Sim.reN (S : Sim K G Z ρ σ H) (h : ρ[k]? = some (Sl.ll n)) (A : LLat K G Z ρ σ H k v fs n) (hout : ∀ c u, c ∉ fs' → H c = some u → H' c = some u) (hnew : ∀ b ∈ fs', b ∈ fs ∨ H b = none)
    (r : NR (RpAll K Z) H' v n' fs') (nd : fs'.Nodup) : Sim K G Z ((cutAl k ρ).set k (.ll n')) σ H' := by
  obtain ⟨S1, F⟩ := S.dropN h A
  have hk' : k < (cutAl k ρ).length := by rw [cutAl_length]; exact (List.getElem?_eq_some_iff.mp h).1
  have nl : ∀ (j : Nat) m, ((cutAl k ρ).set k .no)[j]? ≠ some (Sl.ll m) := fun j m e => by
    by_cases hj : j = k
    · subst hj; rw [List.getElem?_set_self hk'] at e; cases e
    · rw [List.getElem?_set_ne (Ne.symm hj)] at e
      exact hj (S.lx.one j k _ _ ((cutAl_get k rfl (by simp) ρ j).mp e) h)
  have away : ∀ c u, (c ∈ fs → False) → H c = some u → c ∉ fs' := fun c u h1 h2 hc => by
    rcases hnew c hc with q | q
    · exact h1 q
    · rw [q] at h2; cases h2
  have S2 : Sim K G Z ((cutAl k ρ).set k .no) σ H' := by
    refine ⟨S1.zz, fun c u e => ?_, fun c u e l => ?_, S1.nw, S1.pu, fun j p c e => ?_, S1.ne, S1.pin, S1.len, ⟨fun j m e => absurd e (nl j m), fun j m a b e _ => absurd e (nl j a), fun j m r a _ e => absurd e (nl m a)⟩⟩
    · exact hout c u (away c u (fun hc => by rw [F.z c hc] at e; cases e) (S1.zh _ _ e)) (S1.zh _ _ e)
    · exact hout c u (away c u (fun hc => by rw [F.g c hc] at e; cases e) (S1.fr c u e l)) (S1.fr c u e l)
    · obtain ⟨a, o, q, ho, q2⟩ := S1.ow j p c e
      exact ⟨a, o, q, hout a o (away a o (fun hc => (F.n a hc).1 j p c e q) ho) ho, q2⟩
  have F2 : FP K G Z ((cutAl k ρ).set k .no) σ H' fs' := by
    refine ⟨fun b hb => r.live hb, fun b hb => ?_, fun b hb => ?_, fun b hb => ⟨fun j p c e q => ?_, fun ⟨j, m, _, _, e, _⟩ => nl j m e⟩⟩
    · rcases hnew b hb with q | q
      · exact F.z b q
      · exact S.fresh q
    · rcases hnew b hb with q | q
      · exact F.g b q
      · exact S.freshIn q
    · rcases hnew b hb with q' | q'
      · exact (F.n b q').1 j p c e q
      · obtain ⟨a, o, q2, ho, _⟩ := S1.ow j p c e
        rw [q] at q2
        cases q2
        rw [q'] at ho
        cases ho
  have R := S2.putN (List.getElem?_set_self hk') (noLL_of nl) A.s r nd F2
  rw [cutAl_set, cutAl_cut, List.set_set] at R
  exact R
end
/-! the plain side -/
def inApp (m : List (Key × List D)) (j : Key) (d : D) : List (Key × List D) := match m with
  | [] => [(j, [d])]
  | x :: m => if x.1 = j then (x.1, x.2 ++ [d]) :: m else x :: inApp m j d
def ddApp (kvs : List (Key × List (Key × List D))) (i j : Key) (d : D) : List (Key × List (Key × List D)) := match kvs with
  | [] => [(i, [(j, [d])])]
  | m :: kvs => if m.1 = i then (m.1, inApp m.2 j d) :: kvs else m :: ddApp kvs i j d
/-- where a key stands -/
theorem find_split {α β : Type} {R : (Key × α) → (Key × β) → Prop} (f : α → V) (k : Key) (hR : ∀ a b, R a b → a.1 = b.1) : ∀ {A : List (Key × α)} {m : List (Key × β)}, Paired R A m →
    (valV (A.map fun t => (t.1, f t.2)) k = none ∧ ∀ b ∈ m, b.1 ≠ k) ∨
    ∃ A1 t A2 m1 b m2, A = A1 ++ t :: A2 ∧ m = m1 ++ b :: m2 ∧ t.1 = k ∧ b.1 = k ∧ Paired R A1 m1 ∧ R t b ∧ Paired R A2 m2 ∧ (∀ b ∈ m1, b.1 ≠ k) ∧ valV (A.map fun t => (t.1, f t.2)) k = some (f t.2)
  | [], [], .nil => .inl ⟨rfl, fun b hb => by cases hb⟩
  | t :: A, b :: m, .cons h r => by
    have e := hR _ _ h
    by_cases hk : t.1 = k
    · exact .inr ⟨[], t, A, [], b, m, rfl, rfl, hk, by rw [← e]; exact hk, .nil, h, r, fun b hb => (by cases hb), valV_pos (p := (t.1, f t.2)) hk⟩
    · have hv : valV ((t :: A).map fun t => (t.1, f t.2)) k = valV (A.map fun t => (t.1, f t.2)) k := valV_neg (p := (t.1, f t.2)) hk
      rcases find_split f k hR r with ⟨q1, q2⟩ | ⟨A1, t', A2, m1, b', m2, q1, q2, q3, q4, q5, q6, q7, q8, q9⟩
      · refine .inl ⟨by rw [hv]; exact q1, fun b' hb => ?_⟩
        rcases List.mem_cons.mp hb with rfl | hb
        · rw [← e]; exact hk
        · exact q2 b' hb
      · refine .inr ⟨t :: A1, t', A2, b :: m1, b', m2, by rw [q1]; rfl, by rw [q2]; rfl, q3, q4, .cons h q5, q6, q7, fun b' hb => ?_, by rw [hv]; exact q9⟩
        rcases List.mem_cons.mp hb with rfl | hb
        · rw [← e]; exact hk
        · exact q8 b' hb
theorem inApp_none {j : Key} {d : D} : ∀ {m : List (Key × List D)}, (∀ b ∈ m, b.1 ≠ j) → inApp m j d = m ++ [(j, [d])]
  | [], _ => rfl
  | x :: m, h => by
    unfold inApp
    rw [if_neg (h x List.mem_cons_self), inApp_none fun b hb => h b (List.mem_cons_of_mem _ hb)]
    rfl
theorem inApp_some {j : Key} {d : D} {x : Key × List D} (e : x.1 = j) {m2 : List (Key × List D)} : ∀ {m1 : List (Key × List D)}, (∀ b ∈ m1, b.1 ≠ j) → inApp (m1 ++ x :: m2) j d = m1 ++ (x.1, x.2 ++ [d]) :: m2
  | [], _ => by
    show inApp (x :: m2) j d = _
    unfold inApp
    rw [if_pos e]
    rfl
  | y :: m1, h => by
    show inApp (y :: (m1 ++ x :: m2)) j d = _
    unfold inApp
    rw [if_neg (h y List.mem_cons_self), inApp_some e fun b hb => h b (List.mem_cons_of_mem _ hb)]
    rfl
theorem ddApp_none {i j : Key} {d : D} : ∀ {m : List (Key × List (Key × List D))}, (∀ b ∈ m, b.1 ≠ i) → ddApp m i j d = m ++ [(i, [(j, [d])])]
  | [], _ => rfl
  | x :: m, h => by
    unfold ddApp
    rw [if_neg (h x List.mem_cons_self), ddApp_none fun b hb => h b (List.mem_cons_of_mem _ hb)]
    rfl
theorem ddApp_some {i j : Key} {d : D} {x : Key × List (Key × List D)} (e : x.1 = i) {m2 : List (Key × List (Key × List D))} : ∀ {m1 : List (Key × List (Key × List D))}, (∀ b ∈ m1, b.1 ≠ i) → ddApp (m1 ++ x :: m2) i j d = m1 ++ (x.1, inApp x.2 j d) :: m2
  | [], _ => by
    show ddApp (x :: m2) i j d = _
    unfold ddApp
    rw [if_pos e]
    rfl
  | y :: m1, h => by
    show ddApp (y :: (m1 ++ x :: m2)) i j d = _
    unfold ddApp
    rw [if_neg (h y List.mem_cons_self), ddApp_some e fun b hb => h b (List.mem_cons_of_mem _ hb)]
    rfl
theorem putK_none {κ : Type} [DecidableEq κ] {kvs : List (κ × V)} {k : κ} (h : valV kvs k = none) (v : V) : putK kvs k v = kvs ++ [(k, v)] := by
  unfold putK
  rw [valV_any, h, if_neg (by simp)]
theorem paired_app {α β : Type} {P : α → β → Prop} : ∀ {l l' : List α} {m m' : List β}, Paired P l m → Paired P l' m' → Paired P (l ++ l') (m ++ m')
  | _, _, _, _, .nil, h => h
  | _, _, _, _, .cons h r, h' => .cons h (paired_app r h')
def newDD1 (k : Nat) (o : Option Rho) : Mo := match o with
  | some ρ => if noLL ρ = true then .nx ((cutAl k ρ).set k (.ll (.dd []))) else .st
  | none => .st
def oNewDD (k : Nat) : Os := fun ρ => newDD1 k (setSl ρ k .no)
def oDdApp (k a b c : Nat) : O D := fun ρ => match ρ[k]?, ρ[a]?, ρ[b]?, ρ[c]? with
  | some (.ll (.dd kvs)), some (.pu (.int i)), some (.pu (.int j)), some (.pu d) => if kvs.length < 16000000 ∧ (kvs.all fun m => decide (m.2.length < 16000000) && m.2.all fun x => decide (x.2.length < 16000000)) = true then
      .ok .none ((cutAl k ρ).set k (.ll (.dd (ddApp kvs (.inl i) (.inl j) d)))) else .st
  | _, _, _, _ => .st
def oFrzS (k : Nat) (o : Os) : Os := fun ρ => match ρ[k]? with
  | some (.ll n) => o ((cutAl k ρ).set k (.pu (ntD n)))
  | _ => .st
section
variable {X : Cx} {G : Gm} {B : Wish} {x y z u : Str} {pos pos' spos p1 p2 p3 p4 p5 p6 p7 p8 p9 : Pos} {st : Stmt} {o : Os}
theorem sd_frz (k : Nat) (h : SD X G B st o) : SD X G B st (oFrzS k o) := ps_imp h fun D σ H ⟨Z, ρ, S, p⟩ => by
  unfold oFrzS at p
  split at p
  · rename_i n hn
    obtain ⟨v, Z', _, e, _, S1⟩ := S.freezeN hn
    exact ⟨Z', _, S1, PostS.mono p e⟩
  · exact p.elim
theorem sd_newDD (k : Nat) (hN : X.N.Nodup) (hi : X.N[k]? = some x := by rfl) (hx : Loc X.env.scope x := by first | exact Or.inl rfl | exact Or.inr rfl) (hs : swapsWith (.Dict [] [] pos) (some (.Name x pos')) spos.line X.env = pure false := by rfl)
    (hf : X.fn x = true ∨ X.env.scope.names.lookup x = some .local := by first | exact .inl rfl | exact .inr rfl | assumption) : SD X G B (.Assign [.Name x pos'] (.Dict [] [] pos) spos) (oNewDD k) := by
  refine ps_imp (ps_set hN hi hx pe_dnewK hs hf) ?_
  rintro D σ H ⟨Z, ρ, S, p⟩ q hq
  unfold oNewDD newDD1 at p
  split at p
  · rename_i ρ' hset
    split at p
    · rename_i hno
      have S0 := S.grow (.loose S.zh hq (.dK []))
      have F0 : FP X.K G Z ρ σ (upd H q (.dK [])) [q] := by
        refine ⟨fun b hb => ?_, fun b hb => ?_, fun b hb => ?_, fun b hb => ?_⟩ <;> (rw [List.mem_singleton] at hb; subst hb)
        · exact ⟨_, upd_same⟩
        · exact S.fresh hq
        · exact S.freshIn hq
        · exact (S.newA hq).heap S.lx fun c o f ho => by rw [upd_ne]; exact ho; intro e; subst e; rw [hq] at ho; cases ho
      have S1 := S0.put (v := .ref q) hset trivial
      have F1 := F0.put (v := .ref q) hset
      have h2 : k < ρ.length ∧ ρ' = ρ.set k .no := by
        unfold setSl at hset
        split at hset
        · cases hset
        · rename_i s0 _ h0; cases hset; exact ⟨(List.getElem?_eq_some_iff.mp h0).1, rfl⟩
        · cases hset
      have h3 : k < σ.length := by rw [← S.len]; exact h2.1
      have h4 : ρ'[k]? = some Sl.no := by rw [h2.2]; exact List.getElem?_set_self h2.1
      exact p _ Z _ (.refl _) (S1.putN h4 hno (List.getElem?_set_self h3) (.dd (A := []) upd_same .nil) (by simp [ddF]) F1)
    · exact p.elim
  · exact p.elim
end
end Ow
namespace Ow
open PySem L2
theorem ddF_app (A1 A2 : List (Key × Addr × List (Key × Addr))) (t : Key × Addr × List (Key × Addr)) : ddF (A1 ++ t :: A2) = ddF A1 ++ (t.2.1 :: (t.2.2.map (·.2) ++ ddF A2)) := by simp [ddF]
theorem ddF_mem {A : List (Key × Addr × List (Key × Addr))} {c : Addr} : c ∈ ddF A ↔ ∃ t ∈ A, c = t.2.1 ∨ ∃ q ∈ t.2.2, c = q.2 := by
  unfold ddF
  rw [List.mem_flatMap]
  constructor
  · rintro ⟨t, ht, h⟩
    rcases List.mem_cons.mp h with rfl | h
    · exact ⟨t, ht, .inl rfl⟩
    · obtain ⟨q, hq, rfl⟩ := List.mem_map.mp h
      exact ⟨t, ht, .inr ⟨q, hq, rfl⟩⟩
  · rintro ⟨t, ht, rfl | ⟨q, hq, rfl⟩⟩
    · exact ⟨t, ht, List.mem_cons_self⟩
    · exact ⟨t, ht, List.mem_cons_of_mem _ (List.mem_map.mpr ⟨q, hq, rfl⟩)⟩
abbrev DI (P : List V → List D → Prop) (H : Hp) (q : Key × Addr) (x : Key × List D) : Prop := q.1 = x.1 ∧ ∃ vs, H q.2 = some (.lst vs) ∧ P vs x.2
abbrev DO (P : List V → List D → Prop) (H : Hp) (t : Key × Addr × List (Key × Addr)) (m : Key × List (Key × List D)) : Prop := t.1 = m.1 ∧ H t.2.1 = some (.dK (t.2.2.map fun q => (q.1, V.ref q.2))) ∧ Paired (DI P H) t.2.2 m.2
section
variable {P : List V → List D → Prop} {H H' : Hp}
theorem di_keep {B : List (Key × Addr)} {m : List (Key × List D)} (h : Paired (DI P H) B m) (hk : ∀ q ∈ B, ∀ o, H q.2 = some o → H' q.2 = some o) : Paired (DI P H') B m :=
  paired_imp h fun q x hq ⟨e, vs, h1, h2⟩ => ⟨e, vs, hk q hq _ h1, h2⟩
theorem do_keep {A : List (Key × Addr × List (Key × Addr))} {m : List (Key × List (Key × List D))} (h : Paired (DO P H) A m) (hk : ∀ c ∈ ddF A, ∀ o, H c = some o → H' c = some o) : Paired (DO P H') A m :=
  paired_imp h fun t m ht ⟨e, h1, h2⟩ => ⟨e, hk _ (ddF_mem.mpr ⟨t, ht, .inl rfl⟩) _ h1, di_keep h2 fun q hq => hk _ (ddF_mem.mpr ⟨t, ht, .inr ⟨q, hq, rfl⟩⟩)⟩
end
section
variable {X : Cx} {G : Gm} {B : Wish} {x y z u : Str} {apos cpos p1 p2 p3 p4 p5 p6 p7 p8 p9 p10 : Pos}
theorem pd_ddApp (k a b c : Nat)
    (m1 : M2 X (.Name x p1) "setdefault" p2 (.Name y p3) (.Dict [] [] p4) p5) (m2 : M2 X (.Call (.Attribute (.Name x p1) "setdefault" p2) [.Name y p3, .Dict [] [] p4] [] p5) "setdefault" p6 (.Name z p7) (.List [] p8) p9)
    (hN1 : X.N[k]? = some x := by rfl) (hv1 : Vis X.env.scope x := by first | exact Or.inl rfl | exact Or.inr (Or.inl rfl) | exact Or.inr (Or.inr rfl)) (hd1 : (x == ("__debug__" : Str)) = false := by decide) (hc1 : (x == ("__classdict__" : Str)) = false := by decide)
    (hN2 : X.N[a]? = some y := by rfl) (hv2 : Vis X.env.scope y := by first | exact Or.inl rfl | exact Or.inr (Or.inl rfl) | exact Or.inr (Or.inr rfl)) (hd2 : (y == ("__debug__" : Str)) = false := by decide) (hc2 : (y == ("__classdict__" : Str)) = false := by decide)
    (hN3 : X.N[b]? = some z := by rfl) (hv3 : Vis X.env.scope z := by first | exact Or.inl rfl | exact Or.inr (Or.inl rfl) | exact Or.inr (Or.inr rfl)) (hd3 : (z == ("__debug__" : Str)) = false := by decide) (hc3 : (z == ("__classdict__" : Str)) = false := by decide)
    (hN4 : X.N[c]? = some u := by rfl) (hv4 : Vis X.env.scope u := by first | exact Or.inl rfl | exact Or.inr (Or.inl rfl) | exact Or.inr (Or.inr rfl)) (hd4 : (u == ("__debug__" : Str)) = false := by decide) (hc4 : (u == ("__classdict__" : Str)) = false := by decide)
    (hbase : attributeBase (.Call (.Attribute (.Call (.Attribute (.Name x p1) "setdefault" p2) [.Name y p3, .Dict [] [] p4] [] p5) "setdefault" p6) [.Name z p7, .List [] p8] [] p9) "append" X.env (eval (.Call (.Attribute (.Call (.Attribute (.Name x p1) "setdefault" p2) [.Name y p3, .Dict [] [] p4] [] p5) "setdefault" p6) [.Name z p7, .List [] p8] [] p9) X.env) = eval (.Call (.Attribute (.Call (.Attribute (.Name x p1) "setdefault" p2) [.Name y p3, .Dict [] [] p4] [] p5) "setdefault" p6) [.Name z p7, .List [] p8] [] p9) X.env := by rfl)
    (hfew : ((backTo cpos (starEach [.Name u p10] X.env)).all (fun x => !x.1) && (backToKw cpos (keywordEach [] X.env)).all (fun x => x.1.isSome)
      && decide ([Expr.Name u p10].length + ([] : List Keyword).length + (if ([] : List Keyword).isEmpty then 0 else 1) < 30)) = true := by rfl)
    (hline : (apos.endLine == cpos.line) = true := by rfl) (hs : starEach [.Name u p10] X.env = (false, eval (.Name u p10) X.env) :: starEach [] X.env := by rfl) :
    PD X G B (.Call (.Attribute (.Call (.Attribute (.Call (.Attribute (.Name x p1) "setdefault" p2) [.Name y p3, .Dict [] [] p4] [] p5) "setdefault" p6) [.Name z p7, .List [] p8] [] p9) "append" apos) [.Name u p10] [] cpos) (oDdApp k a b c) := by
  refine pe_imp (pe_bm PySem.F.plainAttrs_list PySem.F.slot_list_append PySem.F.type_list_append mt_append (pe_dsetd (pe_dsetd (pe_var (i := k) hN1 hv1 hd1 hc1) (pe_var (i := a) hN2 hv2 hd2 hc2) pe_dnewK m1) (pe_var (i := b) hN3 hv3 hd3 hc3) (pe_lst pa_nil) m2) (pa_cons (pe_var (i := c) hN4 hv4 hd4 hc4) pa_nil hs) hbase hfew hline hs rfl) ?_
  rintro σ H Q ⟨Z, ρ, S, p⟩
  unfold oDdApp at p
  split at p
  · rename_i kvs i j d hk ha hb hc
    split at p
    · rename_i hlim
      obtain ⟨hl1, hl2⟩ := hlim
      have lim2 : ∀ m ∈ kvs, m.2.length < 16000000 ∧ ∀ x ∈ m.2, x.2.length < 16000000 := fun m hm => by
        have := List.all_eq_true.mp hl2 m hm
        simp only [Bool.and_eq_true, decide_eq_true_eq, List.all_eq_true] at this
        exact this
      obtain ⟨v, fs, A⟩ := S.lx.ll k _ hk
      obtain ⟨_, qa, ra⟩ := S.pu a _ ha
      cases ra
      obtain ⟨_, qb, rb⟩ := S.pu b _ hb
      cases rb
      obtain ⟨dv, qc, rc⟩ := S.pu c _ hc
      have nd := A.nd
      have rr := A.r
      have As := A.s
      generalize hv : v = v0 at rr
      generalize hf : fs = fs0 at rr
      cases rr with
      | dd h1 h2 =>
        rename_i a0 A0
        subst hv
        subst hf
        have h2' : Paired (DO (RpAll X.K Z) H) A0 kvs := h2
        have hlA : A0.length = kvs.length := Paired.length h2'
        have liveF : ∀ c ∈ a0 :: ddF A0, ∃ o, H c = some o := fun c hc => A.r.live hc
        refine ⟨_, As, a0, rfl, .inl ⟨_, .inl h1⟩, _, qa, fun p' hp => ?_⟩
        have npF : ∀ c ∈ a0 :: ddF A0, c ≠ p' := fun c hc e => by subst e; obtain ⟨o, ho⟩ := liveF c hc; rw [hp] at ho; cases ho
        refine ⟨A0.map fun t => (t.1, V.ref t.2.1), .inl i, by rw [upd_ne (npF a0 List.mem_cons_self)]; exact h1, rfl, by rw [List.length_map, hlA]; exact lim_lt hl1, fun v hv => ?_, fun hv => ?_⟩
        · -- the outer key is there
          rcases find_split (R := DO (RpAll X.K Z) H) (fun t : Addr × List (Key × Addr) => V.ref t.1) (.inl i) (fun _ _ h => h.1) h2' with ⟨q1, _⟩ | ⟨A1, t, A2, k1, m, k2, eA, ek, et, em, r1, rt, r2, n1, q1⟩
          · have hv' : valV (A0.map fun t => (t.1, V.ref t.2.1)) (.inl i) = some v := hv
            rw [show valV (A0.map fun t => (t.1, V.ref t.2.1)) (.inl i) = none from q1] at hv'
            cases hv'
          have hv' : valV (A0.map fun t => (t.1, V.ref t.2.1)) (.inl i) = some v := hv
          rw [show valV (A0.map fun t => (t.1, V.ref t.2.1)) (.inl i) = some (V.ref t.2.1) from q1] at hv'
          cases hv'
          obtain ⟨e0, hia, rin⟩ := rt
          have tin : t ∈ A0 := by rw [eA]; simp
          have iaF : t.2.1 ∈ a0 :: ddF A0 := List.mem_cons_of_mem _ (ddF_mem.mpr ⟨t, tin, .inl rfl⟩)
          have hmk : m ∈ kvs := by rw [ek]; simp
          refine ⟨t.2.1, rfl, .inl ⟨_, .inl (by rw [upd_ne (npF _ iaF)]; exact hia)⟩, _, qb, Nat.zero_le _, fun q hq => ?_⟩
          have hqp : q ≠ p' := fun e => by subst e; rw [upd_same] at hq; cases hq
          have hqH : H q = none := by rw [upd_ne hqp] at hq; exact hq
          have nqF : ∀ c ∈ a0 :: ddF A0, c ≠ q := fun c hc e => by subst e; obtain ⟨o, ho⟩ := liveF c hc; rw [hqH] at ho; cases ho
          have hlB : t.2.2.length = m.2.length := Paired.length rin
          refine ⟨t.2.2.map fun q => (q.1, V.ref q.2), .inl j, by rw [upd_ne (nqF _ iaF), upd_ne (npF _ iaF)]; exact hia, rfl, by rw [List.length_map, hlB]; exact lim_lt (lim2 m hmk).1, fun v hv => ?_, fun hv => ?_⟩
          · -- .. and the inner one
            rcases find_split (R := DI (RpAll X.K Z) H) V.ref (.inl j) (fun _ _ h => h.1) rin with ⟨q2, _⟩ | ⟨B1, t2, B2, j1, x2, j2, eB, ej, et2, ex2, s1, st, s2, n2, q2⟩
            · rw [q2] at hv; cases hv
            rw [q2] at hv
            cases hv
            obtain ⟨e2, vs, hla, rvs⟩ := st
            have t2in : t2 ∈ t.2.2 := by rw [eB]; simp
            have laF : t2.2 ∈ a0 :: ddF A0 := List.mem_cons_of_mem _ (ddF_mem.mpr ⟨t, tin, .inr ⟨t2, t2in, rfl⟩⟩)
            have hla4 : upd (upd H p' (.dK [])) q (.lst []) t2.2 = some (.lst vs) := by rw [upd_ne (nqF _ laF), upd_ne (npF _ laF)]; exact hla
            refine ⟨.inl ⟨rfl, vs, SqL.of hla4⟩, _, qc, ?_⟩
            have hxm : x2 ∈ m.2 := by rw [ej]; simp
            refine ⟨t2.2, vs, dv, rfl, rfl, hla4, by rw [rvs.length]; exact lim_lt ((lim2 m hmk).2 x2 hxm), ?_⟩
            -- the new heap
            have nd' : (t2.2 :: ((a0 :: (ddF A1 ++ (t.2.1 :: B1.map (·.2)))) ++ (B2.map (·.2) ++ ddF A2))).Nodup := by
              have e : a0 :: ddF A0 = (a0 :: (ddF A1 ++ (t.2.1 :: B1.map (·.2)))) ++ t2.2 :: (B2.map (·.2) ++ ddF A2) := by
                rw [eA, ddF_app, eB]; simp
              exact List.perm_middle.nodup_iff.mp (by rw [← e]; exact nd)
            have ne : ∀ c, c ∈ (a0 :: (ddF A1 ++ (t.2.1 :: B1.map (·.2)))) ++ (B2.map (·.2) ++ ddF A2) → c ≠ t2.2 := fun c hc e => by subst e; exact (List.nodup_cons.mp nd').1 hc
            have keep : ∀ c ∈ a0 :: ddF A0, c ≠ t2.2 → ∀ o, H c = some o → upd (upd (upd H p' (.dK [])) q (.lst [])) t2.2 (.lst (vs ++ [dv])) c = some o := fun c hc hne o ho => by
              rw [upd_ne hne, upd_ne (nqF c hc), upd_ne (npF c hc)]; exact ho
            have inF : ∀ c, c ∈ (a0 :: (ddF A1 ++ (t.2.1 :: B1.map (·.2)))) ++ (B2.map (·.2) ++ ddF A2) → c ∈ a0 :: ddF A0 := fun c hc => by
              rw [eA, ddF_app, eB]; simp at hc ⊢; rcases hc with h | h | h | h | h | h <;> simp [h]
            have kp : ∀ c, c ∈ (a0 :: (ddF A1 ++ (t.2.1 :: B1.map (·.2)))) ++ (B2.map (·.2) ++ ddF A2) → ∀ o, H c = some o → upd (upd (upd H p' (.dK [])) q (.lst [])) t2.2 (.lst (vs ++ [dv])) c = some o := fun c hc => keep c (inF c hc) (ne c hc)
            refine p .non Z _ (.refl _) (S.reN hk A (fs' := a0 :: ddF A0) (fun c o hc ho => ?_) (fun b hb => .inl hb) ?_ nd) .non
            · have c1 : c ≠ t2.2 := fun e => hc (by rw [e]; exact laF)
              have c2 : c ≠ q := fun e => by rw [e, hqH] at ho; cases ho
              have c3 : c ≠ p' := fun e => by rw [e, hp] at ho; cases ho
              rw [upd_ne c1, upd_ne c2, upd_ne c3]; exact ho
            · refine .dd (kp a0 (by simp) _ h1) ?_
              rw [ek, ddApp_some em n1, ej, inApp_some ex2 n2, eA]
              refine paired_app (do_keep r1 fun c hc => kp c (by simp [hc])) (.cons ⟨e0, kp _ (by simp) _ hia, ?_⟩ (do_keep r2 fun c hc => kp c (by simp [hc])))
              rw [eB]
              refine paired_app (di_keep s1 fun c hc => kp _ (by simp; exact .inr (.inr (.inr (.inl ⟨_, hc⟩))))) (.cons ⟨e2, vs ++ [dv], upd_same, rvs.append (.one rc)⟩ (di_keep s2 fun c hc => kp _ (by simp; exact .inr (.inr (.inr (.inr (.inl ⟨_, hc⟩)))))))
          · -- .. but not the inner one
            rcases find_split (R := DI (RpAll X.K Z) H) V.ref (.inl j) (fun _ _ h => h.1) rin with ⟨q2, n2⟩ | ⟨B1, t2, B2, j1, x2, j2, eB, ej, et2, ex2, s1, st, s2, n2, q2⟩
            rotate_left
            · rw [q2] at hv; cases hv
            have hq5 : upd (upd (upd H p' (.dK [])) q (.lst [])) t.2.1 (.dK (putK (t.2.2.map fun q => (q.1, V.ref q.2)) (.inl j) (V.ref q))) q = some (.lst []) := by rw [upd_ne (nqF _ iaF).symm, upd_same]
            refine ⟨.inl ⟨rfl, [], SqL.of hq5⟩, _, qc, ?_⟩
            refine ⟨q, [], dv, rfl, rfl, hq5, lim_lt (by decide), ?_⟩
            rw [putK_none q2]
            have nd' : (t.2.1 :: ((a0 :: ddF A1) ++ (t.2.2.map (·.2) ++ ddF A2))).Nodup := by
              have e : a0 :: ddF A0 = (a0 :: ddF A1) ++ t.2.1 :: (t.2.2.map (·.2) ++ ddF A2) := by rw [eA, ddF_app]; simp
              exact List.perm_middle.nodup_iff.mp (by rw [← e]; exact nd)
            have ne : ∀ c, c ∈ (a0 :: ddF A1) ++ (t.2.2.map (·.2) ++ ddF A2) → c ≠ t.2.1 := fun c hc e => by subst e; exact (List.nodup_cons.mp nd').1 hc
            have inF : ∀ c, c ∈ (a0 :: ddF A1) ++ (t.2.2.map (·.2) ++ ddF A2) → c ∈ a0 :: ddF A0 := fun c hc => by
              rw [eA, ddF_app]; simp at hc ⊢; rcases hc with h | h | h | h <;> simp [h]
            have kp : ∀ c, c ∈ (a0 :: ddF A1) ++ (t.2.2.map (·.2) ++ ddF A2) → ∀ o, H c = some o → upd (upd (upd (upd H p' (.dK [])) q (.lst [])) t.2.1 (.dK ((t.2.2.map fun q => (q.1, V.ref q.2)) ++ [(.inl j, V.ref q)]))) q (.lst ([] ++ [dv])) c = some o := fun c hc o ho => by
              rw [upd_ne (nqF c (inF c hc)), upd_ne (ne c hc), upd_ne (nqF c (inF c hc)), upd_ne (npF c (inF c hc))]; exact ho
            have eF : ddF (A1 ++ (t.1, t.2.1, t.2.2 ++ [(.inl j, q)]) :: A2) = ddF A1 ++ (t.2.1 :: (t.2.2.map (·.2) ++ ([q] ++ ddF A2))) := by rw [ddF_app]; simp
            have eP : (a0 :: ddF (A1 ++ (t.1, t.2.1, t.2.2 ++ [(.inl j, q)]) :: A2)).Perm (q :: (a0 :: ddF A0)) := by
              rw [eF, eA, ddF_app]
              have e1 : (a0 :: (ddF A1 ++ (t.2.1 :: (t.2.2.map (·.2) ++ ([q] ++ ddF A2))))) = (a0 :: (ddF A1 ++ (t.2.1 :: t.2.2.map (·.2)))) ++ q :: ddF A2 := by simp
              have e2 : (a0 :: (ddF A1 ++ (t.2.1 :: (t.2.2.map (·.2) ++ ddF A2)))) = (a0 :: (ddF A1 ++ (t.2.1 :: t.2.2.map (·.2)))) ++ ddF A2 := by simp
              rw [e1, e2]
              exact List.perm_middle
            refine p .non Z _ (.refl _) (S.reN hk A (fs' := a0 :: ddF (A1 ++ (t.1, t.2.1, t.2.2 ++ [(.inl j, q)]) :: A2)) (fun c o hc ho => ?_) (fun b hb => ?_) ?_ ?_) .non
            · have hc' : c ∉ q :: (a0 :: ddF A0) := fun h => hc (eP.mem_iff.mpr h)
              have c1 : c ≠ q := fun e => hc' (by rw [e]; exact List.mem_cons_self)
              have c2 : c ≠ t.2.1 := fun e => hc' (by rw [e]; exact List.mem_cons_of_mem _ iaF)
              have c3 : c ≠ p' := fun e => by rw [e, hp] at ho; cases ho
              rw [upd_ne c1, upd_ne c2, upd_ne c1, upd_ne c3]; exact ho
            · rcases List.mem_cons.mp (eP.mem_iff.mp hb) with rfl | hb
              · exact .inr hqH
              · exact .inl hb
            · refine .dd (A := A1 ++ (t.1, t.2.1, t.2.2 ++ [(.inl j, q)]) :: A2) ?_ ?_
              · have := kp a0 (by simp) _ h1
                rw [this, eA]
                simp
              · rw [ek, ddApp_some em n1, inApp_none n2]
                refine paired_app (do_keep r1 fun c hc => kp c (by simp [hc])) (.cons ⟨e0, ?_, ?_⟩ (do_keep r2 fun c hc => kp c (by simp [hc])))
                · show upd _ q _ t.2.1 = _
                  rw [upd_ne (nqF _ iaF), upd_same]
                  simp
                · exact paired_app (di_keep rin fun c hc => kp _ (by simp; exact .inr (.inr (.inl ⟨_, hc⟩)))) (.cons ⟨rfl, [] ++ [dv], upd_same, .one rc⟩ .nil)
            · exact eP.nodup_iff.mpr (List.nodup_cons.mpr ⟨fun h => nqF q h rfl, nd⟩)
        · -- a new key
          rcases find_split (R := DO (RpAll X.K Z) H) (fun t : Addr × List (Key × Addr) => V.ref t.1) (.inl i) (fun _ _ h => h.1) h2' with ⟨q1, n1⟩ | ⟨A1, t, A2, k1, m, k2, eA, ek, et, em, r1, rt, r2, n1, q1⟩
          rotate_left
          · have hv' : valV (A0.map fun t => (t.1, V.ref t.2.1)) (.inl i) = none := hv
            rw [show valV (A0.map fun t => (t.1, V.ref t.2.1)) (.inl i) = some (V.ref t.2.1) from q1] at hv'
            cases hv'
          have na : p' ≠ a0 := (npF a0 List.mem_cons_self).symm
          have hp1 : upd (upd H p' (.dK [])) a0 (.dK (putK (A0.map fun t => (t.1, V.ref t.2.1)) (.inl i) (V.ref p'))) p' = some (.dK []) := by rw [upd_ne na, upd_same]
          refine ⟨p', rfl, .inl ⟨_, .inl hp1⟩, _, qb, Nat.zero_le _, fun q hq => ?_⟩
          have hqa : q ≠ a0 := fun e => by subst e; rw [upd_same] at hq; cases hq
          have hqp : q ≠ p' := fun e => by subst e; rw [hp1] at hq; cases hq
          have hqH : H q = none := by rw [upd_ne hqa, upd_ne hqp] at hq; exact hq
          have nqF : ∀ c ∈ a0 :: ddF A0, c ≠ q := fun c hc e => by subst e; obtain ⟨o, ho⟩ := liveF c hc; rw [hqH] at ho; cases ho
          refine ⟨[], .inl j, by rw [upd_ne hqp.symm]; exact hp1, rfl, lim_lt (by decide), fun v hv => ?_, fun hv => ?_⟩
          · cases hv
          · rw [putK_none q1, putK_none hv]
            have hq5 : upd (upd (upd (upd H p' (.dK [])) a0 (.dK ((A0.map fun t => (t.1, V.ref t.2.1)) ++ [(.inl i, V.ref p')]))) q (.lst [])) p' (.dK ([] ++ [(.inl j, V.ref q)])) q = some (.lst []) := by rw [upd_ne hqp, upd_same]
            refine ⟨.inl ⟨rfl, [], SqL.of hq5⟩, _, qc, ?_⟩
            refine ⟨q, [], dv, rfl, rfl, hq5, lim_lt (by decide), ?_⟩
            have na0 : a0 ∉ ddF A0 := (List.nodup_cons.mp nd).1
            have kp : ∀ c, c ∈ ddF A0 → ∀ o, H c = some o → upd (upd (upd (upd (upd H p' (.dK [])) a0 (.dK ((A0.map fun t => (t.1, V.ref t.2.1)) ++ [(.inl i, V.ref p')]))) q (.lst [])) p' (.dK ([] ++ [(.inl j, V.ref q)]))) q (.lst ([] ++ [dv])) c = some o := fun c hc o ho => by
              have hc' : c ∈ a0 :: ddF A0 := List.mem_cons_of_mem _ hc
              have ca : c ≠ a0 := fun e => na0 (by rw [← e]; exact hc)
              rw [upd_ne (nqF c hc'), upd_ne (npF c hc'), upd_ne (nqF c hc'), upd_ne ca, upd_ne (npF c hc')]; exact ho
            have eF : ddF (A0 ++ [(.inl i, p', [(.inl j, q)])]) = ddF A0 ++ [p', q] := by simp [ddF]
            refine p .non Z _ (.refl _) (S.reN hk A (fs' := a0 :: ddF (A0 ++ [(.inl i, p', [(.inl j, q)])])) (fun c o hc ho => ?_) (fun b hb => ?_) ?_ ?_) .non
            · rw [eF] at hc
              simp at hc
              rw [upd_ne hc.2.2.2, upd_ne hc.2.2.1, upd_ne hc.2.2.2, upd_ne hc.1, upd_ne hc.2.2.1]; exact ho
            · rw [eF] at hb
              simp at hb
              rcases hb with rfl | hb | rfl | rfl
              · exact .inl List.mem_cons_self
              · exact .inl (List.mem_cons_of_mem _ hb)
              · exact .inr hp
              · exact .inr hqH
            · refine .dd (A := A0 ++ [(.inl i, p', [(.inl j, q)])]) ?_ ?_
              · rw [upd_ne hqa.symm, upd_ne na.symm, upd_ne hqa.symm, upd_same]
                simp
              · rw [ddApp_none n1]
                refine paired_app (do_keep h2' fun c hc => kp c hc) (.cons ⟨rfl, ?_, ?_⟩ .nil)
                · show upd _ q _ p' = _
                  rw [upd_ne hqp.symm, upd_same]
                  rfl
                · exact .cons ⟨rfl, [] ++ [dv], upd_same, .one rc⟩ .nil
            · rw [eF]
              have e1 : a0 :: (ddF A0 ++ [p', q]) = (a0 :: ddF A0) ++ [p', q] := rfl
              rw [e1, List.nodup_append]
              refine ⟨nd, by simp; exact hqp.symm, fun c hc b hb => ?_⟩
              simp at hb
              rcases hb with rfl | rfl
              · exact npF c hc
              · exact nqF c hc
    · exact p.elim
  · exact p.elim
end
end Ow
namespace Ow
open PySem PySem.Spec PyProof.Rows L2
/-! ### set(..) of a list of ints, and sorted of that -/
section
variable {P : Program} {w : World} {A : Around} {E : Value → Shared → Prop} {sh : Shared}
set_option maxHeartbeats 3200000 in
theorem set_of_listI {l : Addr} {itms : Array Value} (nums : List Int) {Q : Value → Shared → Prop} (hand : A.handled = none) (hlist : sh.heap.IsList l itms) (hints : IntsAre itms.toList nums) (hb : nums.length + 1 < scanBound)
    (h : ∀ (hq : Heap) (tn c : Nat), SetR w hq sh.heap.objs.size (fun j => decide (j ∈ nums)) c → c ≤ nums.length → (∀ b o, sh.heap.get? b = some o → hq.get? b = some o) → Q (.ref sh.heap.objs.size) { sh with heap := hq, toks := tn }) :
    wpAny (model P w) A (call (.type "set") [.ref l]) Q E sh := by
  have hsz0 : itms.size = nums.length := by
    have q := IntsAre.length hints
    rw [Array.length_toList] at q
    exact q
  obtain ⟨c, tl, hmro2⟩ := F.called_set.mro
  have hmade2 := F.called_set.made
  have hsub2 := F.called_set.sub
  refine wpAny_call (codeAny_of_tree ?_); show wpAny _ _ (callAny (.type "set") _) _ _ _; refine wpAny_pure ⟨Code.quiet_builtin _ (by decide +kernel), codeAny_builtin F.entry_type_call ?_⟩; rw [Around.under_plain (weight_type_call_type "set" [.ref l] []) rfl]
  have hA1 := F.called_set.notType
  have hA2 := F.called_set.canCreate
  have hcall := F.typeCall_set_1 (.ref l)
  repeat any_goals first | assumption | wp_step

  refine codeAny_mono (code_set_led1 (.ref l) (E := E) (Q₁ := fun obw s₁ => obw = .ref sh.heap.objs.size ∧ s₁ = { sh with heap := sh.heap.push { cls := .type "set", dict := none, data := .set #[] 0 (.fresh 0 0 (!w.params.followText "set-order")) } }) ⟨rfl, rfl⟩) fun r s₁ hres => ?_
  cases r with
  | error e => exact hres
  | ok flo =>
    cases flo with
    | ret obw =>
      obtain ⟨rfl, rfl⟩ := hres
      have hSet : (sh.heap.push { cls := .type "set", dict := none, data := .set #[] 0 (.fresh 0 0 (!w.params.followText "set-order")) }).get? sh.heap.objs.size = some { cls := .type "set", dict := none, data := .set #[] 0 (.fresh 0 0 (!w.params.followText "set-order")) } := Heap.get?_push_size _ rfl
      have hTy : Shared.TypeIs { sh with heap := sh.heap.push { cls := .type "set", dict := none, data := .set #[] 0 (.fresh 0 0 (!w.params.followText "set-order")) } } (.ref sh.heap.objs.size) "set" := ⟨_, hSet, rfl⟩
      have hli2 := F.called_set.init.lookup
      have hbi2 := F.called_set.init.bind (.ref sh.heap.objs.size)
      repeat any_goals first | assumption | wp_step

      refine codeAny_mono (codeAny_call_builtin (R := wants (fun r s₂ => r = .none ∧ ∃ hq tn c, s₂ = { sh with heap := hq, toks := tn } ∧ SetR w hq sh.heap.objs.size (fun j => decide (j ∈ nums)) c ∧ c ≤ nums.length ∧
          (∀ b o, sh.heap.get? b = some o → hq.get? b = some o)) E) F.called_set.init.plain F.entry_set_init (check_set_init_1 hTy ?_)) fun rr2 s₂ hrr2 => ?_
      · obtain ⟨ob0, hol, hcl, nl, hdl⟩ := hlist
        obtain ⟨ocls, odict, odata, oslots⟩ := ob0
        simp only at hcl hdl
        subst hcl; subst hdl
        have hol' : (sh.heap.push { cls := .type "set", dict := none, data := .set #[] 0 (.fresh 0 0 (!w.params.followText "set-order")) }).get? l = some { cls := .type "list", dict := odict, data := .seq itms nl, slots := oslots } := Heap.get?_push_of_some _ hol
        have hsls := F.sub_list_set
        have hsl2 := F.sub_list_frozenset
        have hnne : (Value.type "list" == Value.type "dict") = false := by decide
        have hlA : (sh.heap.push { cls := .type "set", dict := none, data := .set #[] 0 (.fresh 0 0 (!w.params.followText "set-order")) }).IsList l itms := ⟨_, hol', rfl, nl, rfl⟩
        unfold Builtin.«set.__init__» noKeywords Builtin.Frozenset.updateFrom; generalize hPI : pyIter = PIt
        wp_walk
        subst hPI

        refine wpAny_pyIter_list hlA (wpAny_bind (wpAny_runValue ?_))
        have hlSz : l < sh.heap.objs.size := Heap.lt_size hol
        have hh3 : A.in1.in1.in1.handled = none := by simp [hand]
        have hz1 : (sh.heap.push { cls := .type "set", dict := none, data := .set #[] 0 (.fresh 0 0 (!w.params.followText "set-order")) }).objs.size = sh.heap.objs.size + 1 := Heap.size_push ..
        have hneI : l ≠ (sh.heap.push { cls := .type "set", dict := none, data := .set #[] 0 (.fresh 0 0 (!w.params.followText "set-order")) }).objs.size := by
          rw [Heap.size_push]; exact Nat.ne_of_lt (Nat.lt_succ_of_lt hlSz)
        have hSf : sh.heap.objs.size ∉ [(sh.heap.push { cls := .type "set", dict := none, data := .set #[] 0 (.fresh 0 0 (!w.params.followText "set-order")) }).objs.size, l] := by
          rw [Heap.size_push]; simp only [List.mem_cons, List.mem_singleton, List.not_mem_nil, or_false, not_or]
          exact ⟨Nat.ne_of_lt (Nat.lt_succ_self _), Nat.ne_of_gt hlSz⟩
        have hval : ∀ (i : Nat) (v : Value), itms[i]? = some v → ∃ k t, nums[i]? = some k ∧ v = .int k t := fun i v hvv => by
          have hi : i < nums.length := by rw [← hsz0]; exact (Array.getElem?_eq_some_iff.mp hvv).1
          obtain ⟨t, e⟩ := PyProof.Rows.IntsAre.int_at hints i v (by rw [Array.getElem?_toList]; exact hvv)
          refine ⟨nums[i], t, List.getElem?_eq_getElem hi, ?_⟩
          rw [e, List.getD_eq_getElem?_getD, List.getElem?_eq_getElem hi] <;> rfl
        refine set_update_ints ((Walks.list hh3 _ l hneI itms).toS) sh.heap.objs.size
          hSf nums hsz0 hb hval (itms.size - 0) 0 _ (by omega) (Nat.zero_le _)
          ⟨⟨_, Heap.get?_push_size _ rfl, rfl, rfl⟩, (hlA.push _)⟩ ?hS0 ?hR
        case hS0 =>
          have hgt0 : ((sh.heap.push { cls := .type "set", dict := none, data := .set #[] 0 (.fresh 0 0 (!w.params.followText "set-order")) }).push { cls := .type "list_iterator", data := .fields #[.ref l, .int 0 0] }).get? sh.heap.objs.size
              = some { cls := .type "set", dict := none, data := .set #[] 0 (.fresh 0 0 (!w.params.followText "set-order")) } := Heap.get?_push_of_some _ hSet
          exact ⟨0, Nat.le_refl 0, setR_new_at hgt0⟩
        case hR =>
          intro sh' c' hm hc' hSet'
          obtain ⟨hq, g2, d', tn', os'⟩ := sh'
          have eg2 : g2 = sh.gens := hm.gens
          have ed2 : d' = sh.drawn := hm.drawn
          have eo2 : os' = sh.os := hm.os
          subst eg2; subst ed2; subst eo2
          show wpAny _ _ _ _ _ _
          refine wpAny_pure ?_
          show wpAny _ _ (ret Value.none) _ _ _
          rw [hsz0] at hc'
          refine wpAny_pure ⟨rfl, hq, tn', c', rfl, hSet', hc', fun b o e => ?_⟩
          have hBz : b < sh.heap.objs.size := Heap.lt_size e
          have hBa : b ≠ sh.heap.objs.size := Nat.ne_of_lt hBz
          have hB2 : b ≠ (sh.heap.push { cls := .type "set", dict := none, data := .set #[] 0 (.fresh 0 0 (!w.params.followText "set-order")) }).objs.size := by
            rw [Heap.size_push]; exact Nat.ne_of_lt (Nat.lt_succ_of_lt hBz)
          exact hm.heap b o (by simp only [List.mem_cons, List.mem_singleton, List.not_mem_nil, or_false, not_or]; exact ⟨hBa, hB2⟩) (Heap.get?_push_of_some _ (Heap.get?_push_of_some _ e))

      · cases rr2 with
        | error e => exact hrr2
        | ok ff2 =>
          cases ff2 with
          | ret r =>
            obtain ⟨rfl, hq, tn, c', rfl, hSet', hc', hk'⟩ := hrr2
            repeat any_goals first | assumption | wp_step
            exact h _ _ _ hSet' hc' hk'
          | _ => exact hrr2.elim
    | _ => exact hres.elim

end
end Ow
namespace Ow
open PySem L2
/-! ### sorted(set(..)) of ints; still dicts -/
def insI (x : Int) : List Int → List Int
  | [] => [x]
  | y :: r => if x < y then x :: y :: r else if x = y then y :: r else y :: insI x r
def uniq : List Int → List Int
  | [] => []
  | x :: r => insI x (uniq r)
theorem mem_insI {x k : Int} : ∀ {l : List Int}, k ∈ insI x l ↔ k = x ∨ k ∈ l
  | [] => by simp [insI]
  | y :: r => by
    unfold insI
    split
    · simp
    · split
      · rename_i e
        subst e
        simp
      · rw [List.mem_cons, mem_insI, List.mem_cons]
        constructor
        · rintro (h | h | h) <;> simp [h]
        · rintro (h | h | h) <;> simp [h]
theorem mem_uniq {k : Int} : ∀ {l : List Int}, k ∈ uniq l ↔ k ∈ l
  | [] => by simp [uniq]
  | x :: r => by unfold uniq; rw [mem_insI, mem_uniq, List.mem_cons]
theorem insI_lt {x : Int} : ∀ {l : List Int}, l.Pairwise (· < ·) → (insI x l).Pairwise (· < ·)
  | [], _ => by simp [insI]
  | y :: r, h => by
    obtain ⟨h1, h2⟩ := List.pairwise_cons.mp h
    unfold insI
    split
    · rename_i q
      refine List.pairwise_cons.mpr ⟨fun z hz => ?_, h⟩
      rcases List.mem_cons.mp hz with rfl | hz
      · exact q
      · have := h1 z hz; omega
    · split
      · exact h
      · rename_i q1 q2
        refine List.pairwise_cons.mpr ⟨fun z hz => ?_, insI_lt h2⟩
        rcases mem_insI.mp hz with rfl | hz
        · omega
        · exact h1 z hz
theorem uniq_lt : ∀ l : List Int, (uniq l).Pairwise (· < ·)
  | [] => .nil
  | x :: r => insI_lt (uniq_lt r)
theorem lt_ext {l m : List Int} (h1 : l.Pairwise (· < ·)) (h2 : m.Pairwise (· < ·)) (h : ∀ k, k ∈ l ↔ k ∈ m) : l = m := by
  have n1 : l.Nodup := h1.imp fun q e => by subst e; exact Int.lt_irrefl _ q
  have n2 : m.Nodup := h2.imp fun q e => by subst e; exact Int.lt_irrefl _ q
  have p : l.Perm m := (List.perm_ext_iff_of_nodup n1 n2).mpr h
  exact p.eq_of_pairwise (fun a b _ _ x y => by omega) h1 h2
theorem sortI_of {ys ks : List Int} (h1 : ys.Perm ks) (h2 : ys.Pairwise (· ≤ ·)) : ys = sortI ks := by
  have p : ys.Perm (sortI ks) := h1.trans (List.mergeSort_perm _ _).symm
  have s2 : (sortI ks).Pairwise (fun a b => decide (a ≤ b) = true) := List.pairwise_mergeSort (by intro a b c h1 h2; simp at *; omega) (by intro a b; simp; omega) ks
  exact p.eq_of_pairwise (fun a b _ _ x y => by simp at x y; omega) (h2.imp fun h => by simpa using h) s2
/-! the set -/
def rSetI (K : PySem.W.Frag) (w : World) : List V → Hp → VK → Prop := fun xs H Q => ∃ (l : Addr) (ns : List Int), xs = [V.ref l] ∧ (SqL K H l (ns.map V.int) ∨ SqT K H l (ns.map V.int)) ∧ ns.length + 1 < 4096 ∧
  ∀ p c, H p = none → (uniq ns).length = c → Q (.ref p) (upd H p (SetO w p (fun j => decide (j ∈ ns)) c))
theorem setR_count {w : World} {h : Heap} {a : Addr} {ns : List Int} {c : Nat} (R : SetR w h a (fun j => decide (j ∈ ns)) c) : (uniq ns).length = c := by
  obtain ⟨o, es, ep, t, _, _, _, _, nd, hm, _, _, hn, _⟩ := R
  have p : (uniq ns).Perm (es.toList.map L2.keyOf) := by
    refine (List.perm_ext_iff_of_nodup ((uniq_lt ns).imp fun q e => by subst e; exact Int.lt_irrefl _ q) nd).mpr fun k => ?_
    rw [mem_uniq, ← hm k]
    simp
  rw [p.length_eq, List.length_map, Array.length_toList, hn]
section
variable {X : Cx}
theorem ints_are {vs : List Value} {ns : List Int} (h : Vals (ns.map V.int) vs) : PyProof.Rows.IntsAre vs ns := ints_of_vals h
theorem cr_setI (hc : X.calm = true) : CallR X (.type "set") (rSetI X.K X.w) := by
  intro pins s σ H xs us Q I r h
  obtain ⟨l, ns, rfl, hs, hb, q⟩ := h
  rw [Vals.ref1 r]
  rcases hs with hs | hs
  · obtain ⟨its, rv, hl, _⟩ := I.list hs
    refine set_of_listI (w := X.w) ns (I.ok.hd hc) hl.isList (ints_are rv) hb fun h' tk c R hcn hk => ?_
    have hn : H s.heap.objs.size = none := I.hok.fresh (Nat.le_refl _)
    exact ⟨.ref s.heap.objs.size, _, I.laid (t' := tk) (h' := h') (fun b u e => hk b u e) (Nat.le_refl _) (setO_new R), rfl, q _ c hn (setR_count R)⟩
  · obtain ⟨its, rv, hl, _⟩ := I.tuple hs
    refine call_set_tupI (w := X.w) ns (I.ok.hd hc) hl (ints_are rv) hb fun h' tk c R hcn hk => ?_
    have hn : H s.heap.objs.size = none := I.hok.fresh (Nat.le_refl _)
    exact ⟨.ref s.heap.objs.size, _, I.laid (t' := tk) (h' := h') (fun b u e => hk b u e) (Nat.le_refl _) (setO_new R), rfl, q _ c hn (setR_count R)⟩
end
/-- sorted(set(xs)) as data -/
def fSS : List D → Option Rs
  | [.list xs] => match intsOf xs with
    | some ns => if ns.length < 4000 ∧ (uniq ns).length < 64 then some (.nw (.li ((uniq ns).map PyData.int))) else none
    | none => none
  | [.tuple xs] => match intsOf xs with
    | some ns => if ns.length < 4000 ∧ (uniq ns).length < 64 then some (.nw (.li ((uniq ns).map PyData.int))) else none
    | none => none
  | _ => none
section
variable {X : Cx} {G : Gm} {B : Wish} {e : Expr} {p p2 pos pos2 : Pos} {oas : O (List Va)}
theorem zb_sset (hc : X.calm = true) (hg : Gl X "sorted") (hm : X.mg "sorted" = none) (hg2 : Gl X "set") (hm2 : X.mg "set" = none) (ha : AD X G B [e] oas)
    (he : starEach [e] X.env = (false, eval e X.env) :: starEach [] X.env := by rfl) (he2 : starEach [.Call (.Name "set" p2) [e] [] pos2] X.env = (false, eval (.Call (.Name "set" p2) [e] [] pos2) X.env) :: starEach [] X.env := by rfl) :
    RD X G B (.Call (.Name "sorted" p) [.Call (.Name "set" p2) [e] [] pos2] [] pos) (oCB fSS oas) := by
  refine pe_imp (pe_callB (cr_sortedSet hc) hg hm PyProof.Rows.boot_sorted (pa_cons (pe_callTy (cr_setI hc) hg2 hm2 PyProof.Rows.boot_set ha (he := he) (hpl := rfl)) pa_nil he2) (he := he2) (hpl := rfl)) ?_
  intro σ H Q w
  refine run_imp w fun vs as ρ1 Z1 H1 S1 r1 p1 => ?_
  unfold cb1 at p1
  split at p1
  · rename_i ds hds
    split at p1
    · rename_i R hR
      have rd := S1.rdbs r1 hds
      have fin : ∀ (l : Addr) (ns : List Int), vs = [V.ref l] → (SqL X.K H1 l (ns.map V.int) ∨ SqT X.K H1 l (ns.map V.int)) → ns.length < 4000 → (uniq ns).length < 64 → R = .nw (.li ((uniq ns).map PyData.int)) →
          rSetI X.K X.w vs H1 fun x H2 => rSortedSet X.w [x] H2 Q := fun l ns e1 e2 e3 e4 e5 => by
        refine ⟨l, ns, e1, e2, by omega, fun q c hq hcn => ⟨q, _, c, rfl, upd_same, by omega, fun ms t m1 m2 m3 hp => ?_⟩⟩
        have hms : ms = uniq ns := lt_ext m1 (uniq_lt ns) fun k => by rw [m2 k, mem_uniq]; simp
        subst hms
        subst e5
        have g1 : Grow Z1 H1 Z1 (upd H1 q (SetO X.w q (fun j => decide (j ∈ ns)) c)) := .loose S1.zh hq _
        have g2 : Grow Z1 _ Z1 (upd (upd H1 q (SetO X.w q (fun j => decide (j ∈ ns)) c)) t (.lst ((uniq ns).map V.int))) := .loose g1.zh hp _
        have ht : H1 t = none := by
          by_cases e : t = q
          · rw [e, upd_same] at hp; cases hp
          · rw [upd_ne e] at hp; exact hp
        exact p1.fin S1 (g1.trans g2) ⟨t, _, rfl, ht, S1.fresh ht, upd_same, RpAll.ints _⟩
      unfold fSS at hR
      split at hR
      · split at hR
        · rename_i ns hns
          split at hR
          · rename_i hlim
            cases hR
            obtain ⟨v, rfl, rv⟩ := Paired.one rd
            obtain ⟨a, us, rfl, ha', ra⟩ := rv.list S1.zh
            rw [intsOf_eq hns] at ra
            rw [RpAll.of_ints ra] at ha'
            exact fin a ns rfl (.inl (SqL.of ha')) hlim.1 hlim.2 rfl
          · cases hR
        · cases hR
      · split at hR
        · rename_i ns hns
          split at hR
          · rename_i hlim
            cases hR
            obtain ⟨v, rfl, rv⟩ := Paired.one rd
            obtain ⟨a, us, rfl, ha', ra, _⟩ := rv.tup S1.zh
            rw [intsOf_eq hns] at ra
            rw [RpAll.of_ints ra] at ha'
            exact fin a ns rfl (.inr (SqT.of ha')) hlim.1 hlim.2 rfl
          · cases hR
        · cases hR
      · cases hR
    · exact p1.elim
  · exact p1.elim
end
/-! a still dict: d[k], sorted(d) -/
def keyIs (e : D) (k : Key) : Bool := match e, k with
  | .int j, .inl i => decide (j = i)
  | .str x, .inr y => decide (x = y)
  | _, _ => false
theorem keyIs_D (k' k : Key) : keyIs (keyD k') k = decide (k' = k) := by
  cases k' <;> cases k <;> simp [keyIs, keyD]
def lookK : List (D × D) → Key → Option D
  | [], _ => none
  | p :: r, k => if keyIs p.1 k = true then some p.2 else lookK r k
theorem lookK_v {K : PySem.W.Frag} {Z : Hp} {k : Key} {d : D} : ∀ {kvs : List (Key × V)} {ds : List (D × D)}, RpKvs K Z kvs ds → lookK ds k = some d → ∃ v, valV kvs k = some v ∧ Rp K Z v d
  | _, _, .nil, h => by cases h
  | (k', v) :: kvs, (e, d') :: ds, .cons he h1 h2, h => by
    unfold lookK at h
    dsimp only at h
    rw [he, keyIs_D] at h
    by_cases hk : k' = k
    · rw [if_pos (by simpa using hk)] at h
      cases h
      exact ⟨v, valV_pos (p := (k', v)) hk, h1⟩
    · rw [if_neg (by simpa using hk)] at h
      obtain ⟨w, q1, q2⟩ := lookK_v h2 h
      exact ⟨w, by rw [valV_neg (p := (k', v)) hk]; exact q1, q2⟩
def fIxF : D → D → Option Rs
  | .dict ((.bool false, .none) :: ds), .int i => (lookK ds (.inl i)).map .pu
  | _, _ => none
def keysI : List (D × D) → Option (List Int)
  | [] => some []
  | (.int i, _) :: r => (keysI r).map (i :: ·)
  | _ :: _ => none
theorem keysI_v {K : PySem.W.Frag} {Z : Hp} : ∀ {kvs : List (Key × V)} {ds : List (D × D)} {ks : List Int}, RpKvs K Z kvs ds → keysI ds = some ks → kvs.map (·.1) = ks.map Sum.inl
  | _, _, _, .nil, h => by cases h; rfl
  | (k', v) :: kvs, (e, d') :: ds, ks, .cons he h1 h2, h => by
    subst he
    cases k' with
    | inr x => cases h
    | inl i =>
      have h' : (keysI ds).map (i :: ·) = some ks := h
      cases q : keysI ds with
      | none => rw [q] at h'; cases h'
      | some ms =>
        rw [q] at h'
        cases h'
        rw [List.map_cons, List.map_cons, keysI_v h2 q]
def fSortF : List D → Option Rs
  | [.dict ((.bool false, .none) :: ds)] => match keysI ds with
    | some ks => if ks.length < 64 then some (.nw (.li ((sortI ks).map PyData.int))) else none
    | none => none
  | _ => none
theorem Rdb.dct {K : PySem.W.Frag} {Z H : Hp} {v : V} {ds : List (D × D)} (h : Rdb K Z H v (.dict ((.bool false, .none) :: ds))) (e : Same Z H) : ∃ a kvs, v = .ref a ∧ H a = some (.dK kvs) ∧ RpKvs K Z kvs ds := by
  rcases h with h | ⟨_, _, _, _, q, _⟩
  · cases h with
    | dct h1 h2 => exact ⟨_, _, rfl, e _ _ h1, h2⟩
  · cases q
section
variable {X : Cx} {G : Gm} {B : Wish} {a b e : Expr} {p pos : Pos} {oa ob : O Va} {oas : O (List Va)}
theorem rd_ixF {k : Nat} (hr : Room k X.A) (ha : ED X G B a oa) (hb : ED X G B b ob) (hs' : NoSl b := by exact fun _ _ => rfl) : RD X G B (.Subscript a b pos) (oBin fIxF oa ob) := by
  refine pe_imp (pe_dget (hu_of hr) ha hb hs') fun σ H Q w => ?_
  refine run_bin (r := fun x y H Q => ∃ ad v, x = .ref ad ∧ DGet H ad y (some v) ∧ Q v H) ?_ w
  intro x y dx dy R Z H Q e rx ry hf k
  unfold fIxF at hf
  split at hf
  · rename_i ds i
    cases q : lookK ds (.inl i) with
    | none => rw [q] at hf; cases hf
    | some d =>
      rw [q] at hf
      cases hf
      obtain ⟨ad, kvs, rfl, h1, h2⟩ := rx.dct e
      obtain ⟨v, h3, h4⟩ := lookK_v h2 q
      rw [ry.int]
      exact ⟨ad, v, rfl, by rw [← h3]; exact DGet.k (k := .inl i) h1, k v Z H (.refl e) h4⟩
  · cases hf
theorem callS_sortF {K : PySem.W.Frag} : CallS K (fun xs H Q => ∃ (a : Addr) (kvs : List (Key × V)) (ks : List Int), xs = [.ref a] ∧ Rd H a (.dK kvs) ∧ kvs.map (·.1) = ks.map Sum.inl ∧ ks.length < 64 ∧
    ∀ (ys : List Int) (p : Addr), ys.Perm ks → ys.Pairwise (· ≤ ·) → H p = none → Q (.ref p) (upd H p (.lst (ys.map V.int)))) fSortF := by
  intro vs ds R Z H Q e rd hf k
  unfold fSortF at hf
  split at hf
  · rename_i ds'
    split at hf
    · rename_i ks hks
      split at hf
      · rename_i hlim
        cases hf
        obtain ⟨v, rfl, rv⟩ := Paired.one rd
        obtain ⟨ad, kvs, rfl, h1, h2⟩ := rv.dct e
        refine ⟨ad, kvs, ks, rfl, .inl h1, keysI_v h2 hks, hlim, fun ys p y1 y2 hp => ?_⟩
        have hy := sortI_of y1 y2
        subst hy
        exact k _ Z _ (.loose e hp _) ⟨p, _, rfl, hp, none_of_same e hp, upd_same, RpAll.ints _⟩
      · cases hf
    · cases hf
  · cases hf
theorem zb_sortF (hc : X.calm = true) (hg : Gl X "sorted") (hm : X.mg "sorted" = none) (ha : AD X G B [e] oas) (he : starEach [e] X.env = (false, eval e X.env) :: starEach [] X.env := by rfl) : RD X G B (.Call (.Name "sorted" p) [e] [] pos) (oCB fSortF oas) :=
  rd_callB (call_sortedDI hc) callS_sortF hg hm PyProof.Rows.boot_sorted ha (by decide) (by decide) he rfl
end
/-! on a written state -/
@[simp] theorem ap_frzS (k : Nat) (o : Os) (z : Sl) (ρ : Rho) : oFrzS k o (z :: ρ) = match (z :: ρ)[k]? with
  | some (.ll n) => o ((cutAl k (z :: ρ)).set k (.pu (ntD n)))
  | _ => .st := rfl
@[simp] theorem ap_newDD (k : Nat) (z : Sl) (ρ : Rho) : oNewDD k (z :: ρ) = newDD1 k (setSl (z :: ρ) k .no) := rfl
@[simp] theorem newDD1_some (k : Nat) (ρ : Rho) : newDD1 k (some ρ) = if noLL ρ = true then .nx ((cutAl k ρ).set k (.ll (.dd []))) else .st := rfl
@[simp] theorem ap_ddApp (k a b c : Nat) (z : Sl) (ρ : Rho) : oDdApp k a b c (z :: ρ) = match (z :: ρ)[k]?, (z :: ρ)[a]?, (z :: ρ)[b]?, (z :: ρ)[c]? with
  | some (.ll (.dd kvs)), some (.pu (.int i)), some (.pu (.int j)), some (.pu d) => if kvs.length < 16000000 ∧ (kvs.all fun m => decide (m.2.length < 16000000) && m.2.all fun x => decide (x.2.length < 16000000)) = true then
      .ok .none ((cutAl k (z :: ρ)).set k (.ll (.dd (ddApp kvs (.inl i) (.inl j) d)))) else .st
  | _, _, _, _ => .st := rfl
end Ow
namespace Ow
open PySem L2
/-! ### a in d, as a test -/
theorem pt_alt {X : Cx} {e : Expr} {t t' : TT} (h : PT X e t) (h' : PT X e t') : PT X e (fun σ H Q => t σ H Q ∨ t' σ H Q) := ⟨fun pins s σ H Q I w => w.elim (h.run pins s σ H Q I) (h'.run pins s σ H Q I)⟩
section
variable {X : Cx} {G : Gm} {B : Wish} {a b : Expr} {pos : Pos} {oa ob : O Va}
theorem td_inA {k : Nat} (hr : Room k X.A) (ha : ED X G B a oa) (hb : ED X G B b ob) (hm : behindInMarks .In b = false := by rfl) : TD X G B (.Compare a [.In] [b] pos) (oTst (oInA false oa ob)) := by
  refine pt_imp (pt_alt (pt_cmp (pc_din (hu_of hr) ha hb) hm) (pt_cmpR op_inAll ha hb hm)) fun σ H Q w => ?_
  have w := run_tst w
  refine run_two (R1 := fun y x H Q => ∃ ad o, x = .ref ad ∧ DGet H ad y o ∧ Q (.bl o.isSome) H) (R2' := rInAll X.K false) (f1 := din1 false) (f2 := bin1 (fIn false)) (t := fun ρ a b => vaDic ρ b) ?_ ?_ w
  · intro σ Z H ρ y x a b Q S r1 r2 _ p
    unfold din1 at p
    split at p
    · rename_i kd c hk hc
      split at p
      · rename_i o hd
        obtain ⟨ad, ob, rfl, ho, rc⟩ := ctOf_at S r2 hc
        have rk : Rp X.K Z y kd := (S.rdb r1 hk).keptD fun ds e => by subst e; cases c <;> cases hd
        obtain ⟨xv, g, q⟩ := dGet_v ho S.zh rc rk hd
        refine ⟨ad, xv, rfl, g, ?_⟩
        rcases q with ⟨rfl, rfl⟩ | ⟨d', v, rfl, rfl, rv⟩
        · exact p.fin S (.refl S.zh) (.bl _)
        · exact p.fin S (.refl S.zh) (.bl _)
      · exact p.elim
    · exact p.elim
  · intro σ Z H ρ x y a b Q S r1 r2 _ p
    exact bin1_run binS_in S r1 r2 p
theorem td_notinA {k : Nat} (hr : Room k X.A) (ha : ED X G B a oa) (hb : ED X G B b ob) (hm : behindInMarks .NotIn b = false := by rfl) : TD X G B (.Compare a [.NotIn] [b] pos) (oTst (oInA true oa ob)) := by
  refine pt_imp (pt_alt (pt_cmp (pc_dnotin (hu_of hr) ha hb) hm) (pt_cmpR op_notInAll ha hb hm)) fun σ H Q w => ?_
  have w := run_tst w
  refine run_two (R1 := fun y x H Q => ∃ ad o, x = .ref ad ∧ DGet H ad y o ∧ Q (.bl (!o.isSome)) H) (R2' := rInAll X.K true) (f1 := din1 true) (f2 := bin1 (fIn true)) (t := fun ρ a b => vaDic ρ b) ?_ ?_ w
  · intro σ Z H ρ y x a b Q S r1 r2 _ p
    unfold din1 at p
    split at p
    · rename_i kd c hk hc
      split at p
      · rename_i o hd
        obtain ⟨ad, ob, rfl, ho, rc⟩ := ctOf_at S r2 hc
        have rk : Rp X.K Z y kd := (S.rdb r1 hk).keptD fun ds e => by subst e; cases c <;> cases hd
        obtain ⟨xv, g, q⟩ := dGet_v ho S.zh rc rk hd
        refine ⟨ad, xv, rfl, g, ?_⟩
        rcases q with ⟨rfl, rfl⟩ | ⟨d', v, rfl, rfl, rv⟩
        · exact p.fin S (.refl S.zh) (.bl _)
        · exact p.fin S (.refl S.zh) (.bl _)
      · exact p.elim
    · exact p.elim
  · intro σ Z H ρ x y a b Q S r1 r2 _ p
    exact bin1_run binS_in S r1 r2 p
end
end Ow
namespace K36
open PySem PySem.Spec PyProof.Rows L2 Ow
def top (i : Nat) : Stmt := PySem.Challenge.pw_wiredossier_k36_spans.main.body.getD i (.Pass ⟨0, 0, 0, 0⟩)
abbrev FnP (K : PySem.W.Frag) (x : Str) (st : Stmt) (f : Addr) (fd : FuncData) : Prop := FunD K x x (defArgs st) (defBody st) (defScope st) [] [] f fd
structure Mg (K : PySem.W.Frag) (mg : Str → Option Value) : Prop where
  f_abs : mg "abs" = none
  f_enumerate : mg "enumerate" = none
  f_int : mg "int" = none
  f_len : mg "len" = none
  f_list : mg "list" = none
  f_max : mg "max" = none
  f_min : mg "min" = none
  f_range : mg "range" = none
  f_set : mg "set" = none
  f_sorted : mg "sorted" = none
  f_str : mg "str" = none
  f_tuple : mg "tuple" = none
/-! blocks_of: 0 mapped, 1 inputs, 2 registers, 3 cells, 4 outs, 5 many, 6 found, 7 place, 8 name, 9 start, 10 source, 11 sources, 12 sinks -/
abbrev s_blocks_of : Stmt := top 1
abbrev N_blocks_of : List Str := ["mapped", "inputs", "registers", "cells", "outs", "many", "found", "place", "name", "start", "source", "sources", "sinks"]
theorem sc_blocks_of : FnScope ["mapped", "inputs", "registers", "cells", "outs", "many", "found", "place", "name", "start", "source", "sources", "sinks"] ["mapped"] (defScope s_blocks_of) := ⟨rfl, rfl, rfl, by decide +kernel, rfl, by decide +kernel, by decide +kernel⟩
noncomputable def L1_blocks_of : Os := (oDrop (oPu (oMutK 6 fAppend (oCons (oTup (oCons (oTup (oCons (oKeep (oVar 10)) (oCons (oC (.int 0)) oNil))) oNil)) oNil))))
noncomputable def C1_blocks_of : O D := (oTup (oCons (oKeep (oVar 10)) (oCons (oC (.int 0)) oNil)))
noncomputable def L2_blocks_of : Os := (oSeq (oSet 12 (oLc [10] (oItm (oVar 11)) (gNm 10) oYes C1_blocks_of))
 (oDrop (oPu (oMutK 6 fAppend (oCons (oFrz (oCB fTuple (oCons (oPu (oFrz (oBin fAdd (oVar 12) (oPu (oFrz (oLst (oCons (oTup (oCons (oFrz (oLen (oVar 6))) (oCons (oC (.int 1)) oNil))) oNil))))))) oNil))) oNil)))))
noncomputable def L3_blocks_of : Os := (oDrop (oPu (oMutK 6 fAppend (oCons (oTup (oCons (oTup (oCons (oKeep (oVar 10)) (oCons (oC (.int 0)) oNil))) (oCons (oTup (oCons (oFrz (oBin fAdd (oVar 5) (oVar 7))) (oCons (oC (.int 1)) oNil))) oNil))) oNil))))
noncomputable def C2_blocks_of : O D := (oTup (oCons (oTup (oCons (oKeep (oVar 7)) (oCons (oC (.int 1)) oNil))) oNil))
noncomputable def b_blocks_of : Os := (oSeq (oAsg (oKeep (oVar 0)) (gTp 4 (gCn (gNm 1) (gCn (gNm 2) (gCn (gNm 3) (gCn (gNm 4) gNl))))))
 (oSeq (oSet 5 (oLen (oVar 1)))
 (oSeq (oSet 6 (oLc [7] (oRange (oCons (oKeep (oVar 5)) oNil)) (gNm 7) oYes C2_blocks_of))
 (oSeq (oFor (oEnum (oKeep (oVar 2))) (gTp 2 (gCn (gNm 7) (gCn (gTp 3 (gCn (gNm 8) (gCn (gNm 9) (gCn (gNm 10) gNl)))) gNl)))
 L3_blocks_of)
 (oSeq (oFor (oItm (oVar 3)) (gTp 2 (gCn (gNm 8) (gCn (gNm 11) gNl)))
 L2_blocks_of)
 (oSeq (oFor (oItm (oVar 4)) (gTp 2 (gCn (gNm 8) (gCn (gNm 10) gNl)))
 L1_blocks_of)
 (oRet (oCB fTuple (oCons (oVar 6) oNil)))))))))
noncomputable def g_blocks_of : Fn := fnOf 13 b_blocks_of
theorem ok_blocks_of {P : Program} {w : World} {K : PySem.W.Frag} {mg : Str → Option Value} {base : Heap} {f : Addr} {fd : FuncData} (M : Mg K mg) (F : FnP K "blocks_of" s_blocks_of f fd) : FnOk P w K mg base CX0 1 f fd ["mapped"] (spD K 1 g_blocks_of) :=
  fn_ok F sc_blocks_of (by decide) (fun cdv A outer s H E hr G =>
  (bd_cons (sd_asg (pd_ed (ed_var 0)) (gd_tup rfl (gds_cons (gd_name 1 sc_blocks_of.nd) (gds_cons (gd_name 2 sc_blocks_of.nd) (gds_cons (gd_name 3 sc_blocks_of.nd) (gds_cons (gd_name 4 sc_blocks_of.nd) gds_nil))))))
 (bd_cons (sd_set 5 (rd_len rfl M.f_len (ed_var 1)) sc_blocks_of.nd)
 (bd_cons (sd_setLc 6 (own := [("place", 7)]) (T := [7]) rfl sc_blocks_of.nd (by decide) rfl rfl (sw_true rfl rfl rfl (by decide +kernel)) (id_range1 rfl M.f_range (qd_cons (pd_ed (ed_var 5)) qd_nil)) (blkOk_by (N := N_blocks_of) (sc := defScope s_blocks_of) (by decide +kernel)) (fun _ _ _ _ _ _ => (gd_name 7 sc_blocks_of.nd)) (fun _ _ _ _ _ _ => tsd_nil) (fun _ _ _ _ _ _ => (pd_tup (qd_cons (pd_tup (qd_cons (pd_ed (ed_var 7)) (qd_cons pd_int qd_nil))) qd_nil))))
 (bd_cons (sd_for PassesOwn.never rfl (id_enum rfl M.f_enumerate (pd_ed (ed_var 2))) (gd_tup rfl (gds_cons (gd_name 7 sc_blocks_of.nd) (gds_cons (gd_tup rfl (gds_cons (gd_name 8 sc_blocks_of.nd) (gds_cons (gd_name 9 sc_blocks_of.nd) (gds_cons (gd_name 10 sc_blocks_of.nd) gds_nil)))) gds_nil)))
 (bd_one (sd_expr (ed_pd (zl_append 6 (qd_cons (pd_tup (qd_cons (pd_tup (qd_cons (pd_ed (ed_var 10)) (qd_cons pd_int qd_nil))) (qd_cons (pd_tup (qd_cons (pd_rd (rd_add (ed_var 5) (ed_var 7))) (qd_cons pd_int qd_nil))) qd_nil))) qd_nil))))))
 (bd_cons (sd_for PassesOwn.never rfl (id_seq (ed_var 3)) (gd_tup rfl (gds_cons (gd_name 8 sc_blocks_of.nd) (gds_cons (gd_name 11 sc_blocks_of.nd) gds_nil)))
 (bd_cons (sd_setLc 12 (own := [("source", 10)]) (T := [10]) rfl sc_blocks_of.nd (by decide) rfl rfl (sw_true rfl rfl rfl (by decide +kernel)) (id_seq (ed_var 11)) (blkOk_by (N := N_blocks_of) (sc := defScope s_blocks_of) (by decide +kernel)) (fun _ _ _ _ _ _ => (gd_name 10 sc_blocks_of.nd)) (fun _ _ _ _ _ _ => tsd_nil) (fun _ _ _ _ _ _ => (pd_tup (qd_cons (pd_ed (ed_var 10)) (qd_cons pd_int qd_nil)))))
 (bd_one (sd_expr (ed_pd (zl_append 6 (qd_cons (pd_rd (zb_tuple rfl M.f_tuple (ad_cons (ed_pd (pd_rd (rd_add (ed_var 12) (ed_pd (pd_rd (rd_lst (qd_cons (pd_tup (qd_cons (pd_rd (rd_len rfl M.f_len (ed_var 6))) (qd_cons pd_int qd_nil))) qd_nil))))))) ad_nil))) qd_nil)))))))
 (bd_cons (sd_for PassesOwn.never rfl (id_seq (ed_var 4)) (gd_tup rfl (gds_cons (gd_name 8 sc_blocks_of.nd) (gds_cons (gd_name 10 sc_blocks_of.nd) gds_nil)))
 (bd_one (sd_expr (ed_pd (zl_append 6 (qd_cons (pd_tup (qd_cons (pd_tup (qd_cons (pd_ed (ed_var 10)) (qd_cons pd_int qd_nil))) qd_nil)) qd_nil))))))
 (bd_one (sd_ret (zb_tuple rfl M.f_tuple (ad_cons (ed_var 6) ad_nil)))))))))))
/-! block_places: 0 mapped, 1 placement, 2 blocks, 3 found, 4 row, 5 line, 6 column, 7 block -/
abbrev s_block_places : Stmt := top 2
abbrev N_block_places : List Str := ["mapped", "placement", "blocks", "found", "row", "line", "column", "block"]
theorem sc_block_places : FnScope ["mapped", "placement", "blocks", "found", "row", "line", "column", "block"] ["mapped", "placement"] (defScope s_block_places) := ⟨rfl, rfl, rfl, by decide +kernel, rfl, by decide +kernel, by decide +kernel⟩
noncomputable def L1_block_places : Os := (oSeq (oStA 3 (oTup (oCons (oKeep (oVar 4)) (oCons (oKeep (oVar 6)) oNil))) (oKeep (oVar 7)))
 (oAug 6 (fInt2 fun i j => i + j) (oPu (oFrz (oLen (oPu (oFrz (oBin fIx (oVar 2) (oVar 7)))))))))
noncomputable def L2_block_places : Os := (oSeq (oSet 6 (oRes (oC (.int 0))))
 (oFor (oItm (oVar 5)) (gNm 7)
 L1_block_places))
noncomputable def b_block_places : Os := (oSeq (oSet 2 (oCall g_blocks_of (oCons (oPu (oKeep (oVar 0))) oNil)))
 (oSeq (oSet 3 oNewK)
 (oSeq (oFor (oEnum (oKeep (oVar 1))) (gTp 2 (gCn (gNm 4) (gCn (gNm 5) gNl)))
 L2_block_places)
 (oRetV 3))))
noncomputable def g_block_places : Fn := fnOf 8 b_block_places
theorem ok_block_places {P : Program} {w : World} {K : PySem.W.Frag} {mg : Str → Option Value} {base : Heap} {f : Addr} {fd : FuncData} (M : Mg K mg) (F : FnP K "block_places" s_block_places f fd) (c_blocks_of : Cal P w K mg base 1 "blocks_of" ["mapped"] g_blocks_of) : FnOk P w K mg base CX0 2 f fd ["mapped", "placement"] (spD K 2 g_block_places) :=
  fn_ok F sc_block_places (by decide) (fun cdv A outer s H E hr G =>
  (bd_cons (sd_set 2 (rd_cal c_blocks_of hr (by decide) rfl (ad_cons (ed_pd (pd_ed (ed_var 0))) ad_nil) (many_cons many_nil)) sc_block_places.nd)
 (bd_cons (sd_set 3 rd_newK sc_block_places.nd)
 (bd_cons (sd_for PassesOwn.never rfl (id_enum rfl M.f_enumerate (pd_ed (ed_var 1))) (gd_tup rfl (gds_cons (gd_name 4 sc_block_places.nd) (gds_cons (gd_name 5 sc_block_places.nd) gds_nil)))
 (bd_cons (sd_set 6 (rd_pd pd_int) sc_block_places.nd)
 (bd_one (sd_for PassesOwn.never rfl (id_seq (ed_var 5)) (gd_name 7 sc_block_places.nd)
 (bd_cons (sd_stA 3 hr (pd_tup (qd_cons (pd_ed (ed_var 4)) (qd_cons (pd_ed (ed_var 6)) qd_nil))) (pd_ed (ed_var 7)))
 (bd_one (sd_aug 6 ak_add (ed_pd (pd_rd (rd_len rfl M.f_len (ed_pd (pd_rd (rd_ix (ed_var 2) (ed_var 7))))))) sc_block_places.nd)))))))
 (bd_one (sd_retV 3))))))
/-! pins_of: 0 mapped, 1 placement, 2 blocks, 3 places, 4 found, 5 block, 6 columns, 7 row, 8 column, 9 number, 10 signal, 11 drives -/
abbrev s_pins_of : Stmt := top 3
abbrev N_pins_of : List Str := ["mapped", "placement", "blocks", "places", "found", "block", "columns", "row", "column", "number", "signal", "drives"]
theorem sc_pins_of : FnScope ["mapped", "placement", "blocks", "places", "found", "block", "columns", "row", "column", "number", "signal", "drives"] ["mapped", "placement"] (defScope s_pins_of) := ⟨rfl, rfl, rfl, by decide +kernel, rfl, by decide +kernel, by decide +kernel⟩
noncomputable def L1_pins_of : Os := (oDrop (oPu (oMutK 4 fAppend (oCons (oTup (oCons (oKeep (oVar 10)) (oCons (oKeep (oVar 11)) (oCons (oKeep (oVar 7)) (oCons (oFrz (oBin fAdd (oVar 8) (oVar 9))) oNil))))) oNil))))
noncomputable def L2_pins_of : Os := (oSeq (oAsg (oFrz (oIxA (oVar 3) (oVar 5))) (gTp 2 (gCn (gNm 7) (gCn (gNm 8) gNl))))
 (oFor (oEnum (oKeep (oVar 6))) (gTp 2 (gCn (gNm 9) (gCn (gTp 2 (gCn (gNm 10) (gCn (gNm 11) gNl))) gNl)))
 L1_pins_of))
noncomputable def b_pins_of : Os := (oSeq (oSet 2 (oCall g_blocks_of (oCons (oPu (oKeep (oVar 0))) oNil)))
 (oSeq (oSet 3 (oCall g_block_places (oCons (oPu (oKeep (oVar 0))) (oCons (oPu (oKeep (oVar 1))) oNil))))
 (oSeq (oSet 4 (oLst oNil))
 (oSeq (oFor (oEnum (oKeep (oVar 2))) (gTp 2 (gCn (gNm 5) (gCn (gNm 6) gNl)))
 L2_pins_of)
 (oRetV 4)))))
noncomputable def g_pins_of : Fn := fnOf 12 b_pins_of
theorem ok_pins_of {P : Program} {w : World} {K : PySem.W.Frag} {mg : Str → Option Value} {base : Heap} {f : Addr} {fd : FuncData} (M : Mg K mg) (F : FnP K "pins_of" s_pins_of f fd) (c_block_places : Cal P w K mg base 2 "block_places" ["mapped", "placement"] g_block_places) (c_blocks_of : Cal P w K mg base 1 "blocks_of" ["mapped"] g_blocks_of) : FnOk P w K mg base CX0 3 f fd ["mapped", "placement"] (spD K 2 g_pins_of) :=
  fn_ok F sc_pins_of (by decide) (fun cdv A outer s H E hr G =>
  (bd_cons (sd_set 2 (rd_cal c_blocks_of hr (by decide) rfl (ad_cons (ed_pd (pd_ed (ed_var 0))) ad_nil) (many_cons many_nil)) sc_pins_of.nd)
 (bd_cons (sd_set 3 (rd_cal c_block_places hr (by decide) rfl (ad_cons (ed_pd (pd_ed (ed_var 0))) (ad_cons (ed_pd (pd_ed (ed_var 1))) ad_nil)) (many_cons (many_cons many_nil))) sc_pins_of.nd)
 (bd_cons (sd_set 4 (rd_lst qd_nil) sc_pins_of.nd)
 (bd_cons (sd_for PassesOwn.never rfl (id_enum rfl M.f_enumerate (pd_ed (ed_var 2))) (gd_tup rfl (gds_cons (gd_name 5 sc_pins_of.nd) (gds_cons (gd_name 6 sc_pins_of.nd) gds_nil)))
 (bd_cons (sd_asg (pd_rd (rd_ixA hr (ed_var 3) (ed_var 5))) (gd_tup rfl (gds_cons (gd_name 7 sc_pins_of.nd) (gds_cons (gd_name 8 sc_pins_of.nd) gds_nil))))
 (bd_one (sd_for PassesOwn.never rfl (id_enum rfl M.f_enumerate (pd_ed (ed_var 6))) (gd_tup rfl (gds_cons (gd_name 9 sc_pins_of.nd) (gds_cons (gd_tup rfl (gds_cons (gd_name 10 sc_pins_of.nd) (gds_cons (gd_name 11 sc_pins_of.nd) gds_nil))) gds_nil)))
 (bd_one (sd_expr (ed_pd (zl_append 4 (qd_cons (pd_tup (qd_cons (pd_ed (ed_var 10)) (qd_cons (pd_ed (ed_var 11)) (qd_cons (pd_ed (ed_var 7)) (qd_cons (pd_rd (rd_add (ed_var 8) (ed_var 9))) qd_nil))))) qd_nil)))))))))
 (bd_one (sd_retV 4)))))))
/-! wired_signals: 0 mapped, 1 found, 2 columns, 3 signal, 4 drives -/
abbrev s_wired_signals : Stmt := top 4
abbrev N_wired_signals : List Str := ["mapped", "found", "columns", "signal", "drives"]
theorem sc_wired_signals : FnScope ["mapped", "found", "columns", "signal", "drives"] ["mapped"] (defScope s_wired_signals) := ⟨rfl, rfl, rfl, by decide +kernel, rfl, by decide +kernel, by decide +kernel⟩
noncomputable def L1_wired_signals : Os := (oIfS (oTst (oBin fEq (oVar 4) (oPu (oC (.int 0)))))
 (oStA 1 (oC (.bool true)) (oKeep (oVar 3)))
 oNext)
noncomputable def L2_wired_signals : Os := (oFor (oItm (oVar 2)) (gTp 2 (gCn (gNm 3) (gCn (gNm 4) gNl)))
 L1_wired_signals)
noncomputable def b_wired_signals : Os := (oSeq (oSet 1 oNewK)
 (oSeq (oFor (oItm (oPu (oFrz (oCall g_blocks_of (oCons (oPu (oKeep (oVar 0))) oNil))))) (gNm 2)
 L2_wired_signals)
 (oRetV 1)))
noncomputable def g_wired_signals : Fn := fnOf 5 b_wired_signals
theorem ok_wired_signals {P : Program} {w : World} {K : PySem.W.Frag} {mg : Str → Option Value} {base : Heap} {f : Addr} {fd : FuncData} (M : Mg K mg) (F : FnP K "wired_signals" s_wired_signals f fd) (c_blocks_of : Cal P w K mg base 1 "blocks_of" ["mapped"] g_blocks_of) : FnOk P w K mg base CX0 2 f fd ["mapped"] (spD K 1 g_wired_signals) :=
  fn_ok F sc_wired_signals (by decide) (fun cdv A outer s H E hr G =>
  (bd_cons (sd_set 1 rd_newK sc_wired_signals.nd)
 (bd_cons (sd_for PassesOwn.never rfl (id_seq (ed_pd (pd_rd (rd_cal c_blocks_of hr (by decide) rfl (ad_cons (ed_pd (pd_ed (ed_var 0))) ad_nil) (many_cons many_nil))))) (gd_name 2 sc_wired_signals.nd)
 (bd_one (sd_for PassesOwn.never rfl (id_seq (ed_var 2)) (gd_tup rfl (gds_cons (gd_name 3 sc_wired_signals.nd) (gds_cons (gd_name 4 sc_wired_signals.nd) gds_nil)))
 (bd_one (sd_if (td_ck (ck_eq hr) (ed_var 4) (ed_pd pd_int))
 (bd_one (sd_stA 1 hr pd_bool (pd_ed (ed_var 3))))
 bd_nil)))))
 (bd_one (sd_retV 1)))))
/-! spans_of: 0 mapped, 1 placement, 2 wired, 3 columns, 4 signal, 5 drives, 6 row, 7 column, 8 rows, 9 spine, 10 met, 11 low -/
abbrev s_spans_of : Stmt := top 5
abbrev N_spans_of : List Str := ["mapped", "placement", "wired", "columns", "signal", "drives", "row", "column", "rows", "spine", "met", "low"]
theorem sc_spans_of : FnScope ["mapped", "placement", "wired", "columns", "signal", "drives", "row", "column", "rows", "spine", "met", "low"] ["mapped", "placement"] (defScope s_spans_of) := ⟨rfl, rfl, rfl, by decide +kernel, rfl, by decide +kernel, by decide +kernel⟩
noncomputable def C1_spans_of : O D := (oFrz (oCB fTuple (oCons (oVar 6) oNil)))
noncomputable def L1_spans_of : Os := (oSeq (oSet 11 (oIf (oTst (oBin fEq (oPu (oFrz (oLen (oVar 10)))) (oPu (oC (.int 1))))) (oCB fMin1X (oCons (oPu (oFrz (oBin fIxF (oPu (oFrz (oBin fIxF (oVar 3) (oVar 4)))) (oVar 6)))) oNil)) (oUn fNeg (oPu (oC (.int 1))))))
 (oDrop (oPu (oAppLL 8 (oKeep (oVar 6)) (oTup (oCons (oKeep (oVar 4)) (oCons (oKeep (oVar 11)) (oCons (oFrz (oCB fMax1X (oCons (oPu (oFrz (oBin fIxF (oPu (oFrz (oBin fIxF (oVar 3) (oVar 4)))) (oVar 6)))) oNil))) oNil))))))))
noncomputable def L2_spans_of : Os := (oSeq (oSet 10 (oCB fSortF (oCons (oPu (oFrz (oBin fIxF (oVar 3) (oVar 4)))) oNil)))
 (oSeq (oFor (oItm (oVar 10)) (gNm 6)
 L1_spans_of)
 (oIfS (oTst (oBin fGt (oPu (oFrz (oLen (oVar 10)))) (oPu (oC (.int 1)))))
 (oDrop (oPu (oMutK 9 fAppend (oCons (oTup (oCons (oKeep (oVar 4)) (oCons (oFrz (oBin fIx (oVar 10) (oPu (oC (.int 0))))) (oCons (oFrz (oBin fIx (oVar 10) (oPu (oFrz (oUn fNeg (oPu (oC (.int 1)))))))) oNil)))) oNil))))
 oNext)))
noncomputable def C2_spans_of : O Rs := (oLst oNil)
noncomputable def L3_spans_of : Os := (oIfS (oTst (oInA false (oVar 4) (oVar 2)))
 (oDrop (oPu (oDdApp 3 4 6 7)))
 oNext)
noncomputable def b_spans_of : Os := (oSeq (oSet 2 (oCall g_wired_signals (oCons (oPu (oKeep (oVar 0))) oNil)))
 (oSeq (oNewDD 3)
 (oSeq (oFor (oItm (oPu (oFrz (oCall g_pins_of (oCons (oPu (oKeep (oVar 0))) (oCons (oPu (oKeep (oVar 1))) oNil)))))) (gTp 4 (gCn (gNm 4) (gCn (gNm 5) (gCn (gNm 6) (gCn (gNm 7) gNl)))))
 L3_spans_of)
 (oSeq (oFrzS 3 (oMkLL 8 [6] (oItm (oVar 1)) (gNm 6) C2_spans_of))
 (oSeq (oSet 9 (oLst oNil))
 (oSeq (oFor (oItm (oPu (oFrz (oCB fSortF (oCons (oVar 3) oNil))))) (gNm 4)
 L2_spans_of)
 (oRet (oRes (oTup (oCons (oFrz (oCB fTuple (oCons (oPu (oFrz (oLc [6] (oItm (oPu (oFrzLL 8))) (gNm 6) oYes C1_spans_of))) oNil))) (oCons (oFrz (oCB fTuple (oCons (oVar 9) oNil))) oNil)))))))))))
noncomputable def g_spans_of : Fn := fnOf 12 b_spans_of
theorem ok_spans_of {P : Program} {w : World} {K : PySem.W.Frag} {mg : Str → Option Value} {base : Heap} {f : Addr} {fd : FuncData} (M : Mg K mg) (F : FnP K "spans_of" s_spans_of f fd) (c_pins_of : Cal P w K mg base 3 "pins_of" ["mapped", "placement"] g_pins_of) (c_wired_signals : Cal P w K mg base 2 "wired_signals" ["mapped"] g_wired_signals) : FnOk P w K mg base CX0 4 f fd ["mapped", "placement"] (spD K 2 g_spans_of) :=
  fn_ok F sc_spans_of (by decide) (fun cdv A outer s H E hr G =>
  (bd_cons (sd_set 2 (rd_cal c_wired_signals hr (by decide) rfl (ad_cons (ed_pd (pd_ed (ed_var 0))) ad_nil) (many_cons many_nil)) sc_spans_of.nd)
 (bd_cons (sd_newDD 3 sc_spans_of.nd)
 (bd_cons (sd_for PassesOwn.never rfl (id_seq (ed_pd (pd_rd (rd_cal c_pins_of hr (by decide) rfl (ad_cons (ed_pd (pd_ed (ed_var 0))) (ad_cons (ed_pd (pd_ed (ed_var 1))) ad_nil)) (many_cons (many_cons many_nil)))))) (gd_tup rfl (gds_cons (gd_name 4 sc_spans_of.nd) (gds_cons (gd_name 5 sc_spans_of.nd) (gds_cons (gd_name 6 sc_spans_of.nd) (gds_cons (gd_name 7 sc_spans_of.nd) gds_nil)))))
 (bd_one (sd_if (td_inA hr (ed_var 4) (ed_var 2))
 (bd_one (sd_expr (ed_pd (pd_ddApp 3 4 6 7 ⟨rfl, rfl, rfl, rfl⟩ ⟨rfl, rfl, rfl, rfl⟩))))
 bd_nil)))
 (bd_cons (sd_frz 3 (sd_mkLLc 8 (own := [("row", 6)]) (T := [6]) rfl sc_spans_of.nd (by decide) rfl rfl (sw_true rfl rfl rfl (by decide +kernel)) (id_seq (ed_var 1)) (blkOk_by (N := N_spans_of) (sc := defScope s_spans_of) (by decide +kernel)) (fun _ _ _ _ _ _ => (gd_name 6 sc_spans_of.nd)) (fun _ _ _ _ _ _ => (rd_lst qd_nil))))
 (bd_cons (sd_set 9 (rd_lst qd_nil) sc_spans_of.nd)
 (bd_cons (sd_for PassesOwn.never rfl (id_seq (ed_pd (pd_rd (zb_sortF rfl rfl M.f_sorted (ad_cons (ed_var 3) ad_nil))))) (gd_name 4 sc_spans_of.nd)
 (bd_cons (sd_set 10 (zb_sortF rfl rfl M.f_sorted (ad_cons (ed_pd (pd_rd (rd_ixF hr (ed_var 3) (ed_var 4)))) ad_nil)) sc_spans_of.nd)
 (bd_cons (sd_for PassesOwn.never rfl (id_seq (ed_var 10)) (gd_name 6 sc_spans_of.nd)
 (bd_cons (sd_set 11 (rd_if (td_ck (ck_eq hr) (ed_pd (pd_rd (rd_len rfl M.f_len (ed_var 10)))) (ed_pd pd_int)) (zb_min1X hr rfl rfl M.f_min (ad_cons (ed_pd (pd_rd (rd_ixF hr (ed_pd (pd_rd (rd_ixF hr (ed_var 3) (ed_var 4)))) (ed_var 6)))) ad_nil)) (rd_neg (ed_pd pd_int))) sc_spans_of.nd)
 (bd_one (sd_expr (ed_pd (pd_appLL 8 (pd_ed (ed_var 6)) (fun _ => (pd_tup (qd_cons (pd_ed (ed_var 4)) (qd_cons (pd_ed (ed_var 11)) (qd_cons (pd_rd (zb_max1X hr rfl rfl M.f_max (ad_cons (ed_pd (pd_rd (rd_ixF hr (ed_pd (pd_rd (rd_ixF hr (ed_var 3) (ed_var 4)))) (ed_var 6)))) ad_nil))) qd_nil)))))))))))
 (bd_one (sd_if (td_ck ck_gt (ed_pd (pd_rd (rd_len rfl M.f_len (ed_var 10)))) (ed_pd pd_int))
 (bd_one (sd_expr (ed_pd (zl_append 9 (qd_cons (pd_tup (qd_cons (pd_ed (ed_var 4)) (qd_cons (pd_rd (rd_ix (ed_var 10) (ed_pd pd_int))) (qd_cons (pd_rd (rd_ix (ed_var 10) (ed_pd (pd_rd (rd_neg (ed_pd pd_int)))))) qd_nil)))) qd_nil)))))
 bd_nil)))))
 (bd_one (sd_ret (rd_pd (pd_tup (qd_cons (pd_rd (zb_tuple rfl M.f_tuple (ad_cons (ed_pd (pd_rd (rd_lc (own := [("row", 6)]) (T := [6]) rfl sc_spans_of.nd (by decide) (id_seq (ed_pd (pd_frzLL 8))) (blkOk_by (N := N_spans_of) (sc := defScope s_spans_of) (by decide +kernel)) (fun _ _ _ _ _ _ => (gd_name 6 sc_spans_of.nd)) (fun _ _ _ _ _ _ => tsd_nil) (fun _ _ _ _ _ _ => (pd_rd (zb_tuple rfl M.f_tuple (ad_cons (ed_var 6) ad_nil))))))) ad_nil))) (qd_cons (pd_rd (zb_tuple rfl M.f_tuple (ad_cons (ed_var 9) ad_nil))) qd_nil)))))))))))))
/-! _law_begin: 0 script, 1 cell -/
abbrev s__law_begin : Stmt := top 7
abbrev N__law_begin : List Str := ["script", "cell"]
theorem sc__law_begin : FnScope ["script", "cell"] ["script"] (defScope s__law_begin) := ⟨rfl, rfl, rfl, by decide +kernel, rfl, by decide +kernel, by decide +kernel⟩
noncomputable def C1__law_begin : O D := (oFrz (oCB fIntX (oCons (oVar 1) oNil)))
noncomputable def b__law_begin : Os := (oRet (oLst (oCons (oFrz (oLc [1] (oItm (oVar 0)) (gNm 1) oYes C1__law_begin)) (oCons (oC (.int 0)) (oCons (oC (.int 0)) (oCons (oC (.int 7)) (oCons (oC (.int 3)) oNil)))))))
noncomputable def g__law_begin : Fn := fnOf 2 b__law_begin
theorem ok__law_begin {P : Program} {w : World} {K : PySem.W.Frag} {mg : Str → Option Value} {base : Heap} {f : Addr} {fd : FuncData} (M : Mg K mg) (F : FnP K "_law_begin" s__law_begin f fd) : FnOk P w K mg base CX0 1 f fd ["script"] (spD K 1 g__law_begin) :=
  fn_ok F sc__law_begin (by decide) (fun cdv A outer s H E hr G =>
  (bd_one (sd_ret (rd_lst (qd_cons (pd_rd (rd_lc (own := [("cell", 1)]) (T := [1]) rfl sc__law_begin.nd (by decide) (id_seq (ed_var 0)) (blkOk_by (N := N__law_begin) (sc := defScope s__law_begin) (by decide +kernel)) (fun _ _ _ _ _ _ => (gd_name 1 sc__law_begin.nd)) (fun _ _ _ _ _ _ => tsd_nil) (fun _ _ _ _ _ _ => (pd_rd (zb_int rfl M.f_int (ad_cons (ed_var 1) ad_nil)))))) (qd_cons pd_int (qd_cons pd_int (qd_cons pd_int (qd_cons pd_int qd_nil)))))))))
/-! _law_draw: 0 d, 1 many, 2 size, 3 found, 4 cell -/
abbrev s__law_draw : Stmt := top 8
abbrev N__law_draw : List Str := ["d", "many", "size", "found", "cell"]
theorem sc__law_draw : FnScope ["d", "many", "size", "found", "cell"] ["d", "many"] (defScope s__law_draw) := ⟨rfl, rfl, rfl, by decide +kernel, rfl, by decide +kernel, by decide +kernel⟩
noncomputable def b__law_draw : Os := (oSeq (oIfS (oTst (oBin fGt (oPu (oFrz (oBin fIx (oVar 0) (oPu (oC (.int 2)))))) (oPu (oC (.int 0)))))
 (oSeq (oSet 3 (oBin fIx (oVar 0) (oPu (oC (.int 2)))))
 (oSeq (oStL 0 (oFrz (oBin fDiv (oVar 3) (oVar 1))) (oC (.int 2)))
 (oRet (oBin fMod (oPu (oFrz (oCB fIntX (oCons (oVar 3) oNil)))) (oVar 1)))))
 oNext)
 (oSeq (oSet 2 (oRes (oC (.int 0))))
 (oSeq (oIfS (oTst (oBin fLt (oPu (oFrz (oBin fIx (oVar 0) (oPu (oC (.int 1)))))) (oPu (oFrz (oLen (oPu (oFrz (oBin fIx (oVar 0) (oPu (oC (.int 0)))))))))))
 (oSeq (oSet 4 (oBin fIx (oPu (oFrz (oBin fIx (oVar 0) (oPu (oC (.int 0)))))) (oPu (oFrz (oBin fIx (oVar 0) (oPu (oC (.int 1))))))))
 (oSet 2 (oBin fAdd (oPu (oFrz (oBin fMulY (oPu (oC (.int 2))) (oPu (oFrz (oCB fAbs (oCons (oVar 4) oNil))))))) (oPu (oFrz (oCB fIntX (oCons (oPu (oFrz (oBin fLt (oVar 4) (oPu (oC (.int 0)))))) oNil)))))))
 oNext)
 (oSeq (oAuL 0 (fInt2 fun i j => i + j) (oC (.int 1)) (oC (.int 1)))
 (oSeq (oIfS (oTst (oBin fGe (oVar 2) (oPu (oFrz (oBin fMulY (oPu (oC (.int 2))) (oPu (oFrz (oBin fPow (oPu (oC (.int 10))) (oPu (oC (.int 18)))))))))))
 (oSeq (oSet 3 (oBin fMod (oPu (oFrz (oCB fIntX (oCons (oPu (oFrz (oBin fDiv (oVar 2) (oPu (oC (.int 2)))))) oNil)))) (oPu (oFrz (oBin fShl (oPu (oC (.int 1))) (oPu (oC (.int 6000))))))))
 (oSeq (oStL 0 (oFrz (oBin fDiv (oVar 3) (oVar 1))) (oC (.int 2)))
 (oRet (oBin fMod (oPu (oFrz (oCB fIntX (oCons (oVar 3) oNil)))) (oVar 1)))))
 oNext)
 (oSeq (oStL 0 (oFrz (oBin fMod (oPu (oFrz (oCB fIntX (oCons (oPu (oFrz (oBin fAdd (oPu (oFrz (oBin fAdd (oPu (oFrz (oBin fAdd (oPu (oFrz (oBin fMulY (oPu (oFrz (oBin fIx (oVar 0) (oPu (oC (.int 3)))))) (oPu (oC (.int 48271)))))) (oPu (oFrz (oBin fMulY (oPu (oFrz (oBin fMod (oPu (oFrz (oCB fIntX (oCons (oVar 2) oNil)))) (oPu (oC (.int 2147483629)))))) (oPu (oC (.int 16807))))))))) (oPu (oFrz (oBin fMulY (oPu (oFrz (oBin fIx (oVar 0) (oPu (oC (.int 1)))))) (oPu (oC (.int 69621))))))))) (oPu (oC (.int 11)))))) oNil)))) (oPu (oC (.int 2147483647))))) (oC (.int 3)))
 (oRet (oBin fMod (oPu (oFrz (oCB fIntX (oCons (oPu (oFrz (oBin fDiv (oPu (oFrz (oBin fIx (oVar 0) (oPu (oC (.int 3)))))) (oPu (oC (.int 16)))))) oNil)))) (oVar 1)))))))))
noncomputable def g__law_draw : Fn := fnOf 5 b__law_draw
theorem ok__law_draw {P : Program} {w : World} {K : PySem.W.Frag} {mg : Str → Option Value} {base : Heap} {f : Addr} {fd : FuncData} (M : Mg K mg) (F : FnP K "_law_draw" s__law_draw f fd) : FnOk P w K mg base CX0 1 f fd ["d", "many"] (spD K 2 g__law_draw) :=
  fn_ok F sc__law_draw (by decide) (fun cdv A outer s H E hr G =>
  (bd_cons (sd_if (td_ck ck_gt (ed_pd (pd_rd (rd_ix (ed_var 0) (ed_pd pd_int)))) (ed_pd pd_int))
 (bd_cons (sd_set 3 (rd_ix (ed_var 0) (ed_pd pd_int)) sc__law_draw.nd)
 (bd_cons (sd_stL 0 (pd_rd (rd_fdiv (ed_var 3) (ed_var 1))) pd_int)
 (bd_one (sd_ret (rd_mod (ed_pd (pd_rd (zb_int rfl M.f_int (ad_cons (ed_var 3) ad_nil)))) (ed_var 1))))))
 bd_nil)
 (bd_cons (sd_set 2 (rd_pd pd_int) sc__law_draw.nd)
 (bd_cons (sd_if (td_ck ck_lt (ed_pd (pd_rd (rd_ix (ed_var 0) (ed_pd pd_int)))) (ed_pd (pd_rd (rd_len rfl M.f_len (ed_pd (pd_rd (rd_ix (ed_var 0) (ed_pd pd_int))))))))
 (bd_cons (sd_set 4 (rd_ix (ed_pd (pd_rd (rd_ix (ed_var 0) (ed_pd pd_int)))) (ed_pd (pd_rd (rd_ix (ed_var 0) (ed_pd pd_int))))) sc__law_draw.nd)
 (bd_one (sd_set 2 (rd_add (ed_pd (pd_rd (rd_mulY (ed_pd pd_int) (ed_pd (pd_rd (zb_abs rfl M.f_abs (ad_cons (ed_var 4) ad_nil))))))) (ed_pd (pd_rd (zb_int rfl M.f_int (ad_cons (ed_pd (pd_rd (rd_ck ck_lt (ed_var 4) (ed_pd pd_int)))) ad_nil))))) sc__law_draw.nd)))
 bd_nil)
 (bd_cons (sd_auL 0 ak_add pd_int pd_int)
 (bd_cons (sd_if (td_ck ck_ge (ed_var 2) (ed_pd (pd_rd (rd_mulY (ed_pd pd_int) (ed_pd (pd_rd (rd_pow (ed_pd pd_int) (ed_pd pd_int))))))))
 (bd_cons (sd_set 3 (rd_mod (ed_pd (pd_rd (zb_int rfl M.f_int (ad_cons (ed_pd (pd_rd (rd_fdiv (ed_var 2) (ed_pd pd_int)))) ad_nil)))) (ed_pd (pd_rd (rd_shl (ed_pd pd_int) (ed_pd pd_int))))) sc__law_draw.nd)
 (bd_cons (sd_stL 0 (pd_rd (rd_fdiv (ed_var 3) (ed_var 1))) pd_int)
 (bd_one (sd_ret (rd_mod (ed_pd (pd_rd (zb_int rfl M.f_int (ad_cons (ed_var 3) ad_nil)))) (ed_var 1))))))
 bd_nil)
 (bd_cons (sd_stL 0 (pd_rd (rd_mod (ed_pd (pd_rd (zb_int rfl M.f_int (ad_cons (ed_pd (pd_rd (rd_add (ed_pd (pd_rd (rd_add (ed_pd (pd_rd (rd_add (ed_pd (pd_rd (rd_mulY (ed_pd (pd_rd (rd_ix (ed_var 0) (ed_pd pd_int)))) (ed_pd pd_int)))) (ed_pd (pd_rd (rd_mulY (ed_pd (pd_rd (rd_mod (ed_pd (pd_rd (zb_int rfl M.f_int (ad_cons (ed_var 2) ad_nil)))) (ed_pd pd_int)))) (ed_pd pd_int))))))) (ed_pd (pd_rd (rd_mulY (ed_pd (pd_rd (rd_ix (ed_var 0) (ed_pd pd_int)))) (ed_pd pd_int))))))) (ed_pd pd_int)))) ad_nil)))) (ed_pd pd_int))) pd_int)
 (bd_one (sd_ret (rd_mod (ed_pd (pd_rd (zb_int rfl M.f_int (ad_cons (ed_pd (pd_rd (rd_fdiv (ed_pd (pd_rd (rd_ix (ed_var 0) (ed_pd pd_int)))) (ed_pd pd_int)))) ad_nil)))) (ed_var 1)))))))))))
/-! _law_rare: 0 d, 1 many -/
abbrev s__law_rare : Stmt := top 9
abbrev N__law_rare : List Str := ["d", "many"]
theorem sc__law_rare : FnScope ["d", "many"] ["d", "many"] (defScope s__law_rare) := ⟨rfl, rfl, rfl, by decide +kernel, rfl, by decide +kernel, by decide +kernel⟩
noncomputable def b__law_rare : Os := (oRet (oBin fEq (oPu (oFrz (oCall g__law_draw (oCons (oVar 0) (oCons (oPu (oKeep (oVar 1))) oNil))))) (oPu (oFrz (oBin fDiv (oVar 1) (oPu (oC (.int 2))))))))
noncomputable def g__law_rare : Fn := fnOf 2 b__law_rare
theorem ok__law_rare {P : Program} {w : World} {K : PySem.W.Frag} {mg : Str → Option Value} {base : Heap} {f : Addr} {fd : FuncData} (M : Mg K mg) (F : FnP K "_law_rare" s__law_rare f fd) (c__law_draw : Cal P w K mg base 1 "_law_draw" ["d", "many"] g__law_draw) : FnOk P w K mg base CX0 2 f fd ["d", "many"] (spD K 2 g__law_rare) :=
  fn_ok F sc__law_rare (by decide) (fun cdv A outer s H E hr G =>
  (bd_one (sd_ret (rd_ck (ck_eq hr) (ed_pd (pd_rd (rd_cal c__law_draw hr (by decide) rfl (ad_cons (ed_var 0) (ad_cons (ed_pd (pd_ed (ed_var 1))) ad_nil)) (many_cons (many_cons many_nil))))) (ed_pd (pd_rd (rd_fdiv (ed_var 1) (ed_pd pd_int))))))))
/-! _law_shuffled: 0 d, 1 row, 2 left, 3 found, 4 k -/
abbrev s__law_shuffled : Stmt := top 10
abbrev N__law_shuffled : List Str := ["d", "row", "left", "found", "k"]
theorem sc__law_shuffled : FnScope ["d", "row", "left", "found", "k"] ["d", "row"] (defScope s__law_shuffled) := ⟨rfl, rfl, rfl, by decide +kernel, rfl, by decide +kernel, by decide +kernel⟩
noncomputable def L1__law_shuffled : Os := (oDrop (oPu (oMutK 3 fAppend (oCons (oMut 2 fPopAt (oCons (oPu (oFrz (oCall g__law_draw (oCons (oVar 0) (oCons (oPu (oFrz (oLen (oVar 2)))) oNil))))) oNil)) oNil))))
noncomputable def b__law_shuffled : Os := (oSeq (oSet 2 (oCB fList (oCons (oVar 1) oNil)))
 (oSeq (oSet 3 (oLst oNil))
 (oSeq (oFor (oRange (oCons (oFrz (oLen (oVar 2))) oNil)) (gNm 4)
 L1__law_shuffled)
 (oRetV 3))))
noncomputable def g__law_shuffled : Fn := fnOf 5 b__law_shuffled
theorem ok__law_shuffled {P : Program} {w : World} {K : PySem.W.Frag} {mg : Str → Option Value} {base : Heap} {f : Addr} {fd : FuncData} (M : Mg K mg) (F : FnP K "_law_shuffled" s__law_shuffled f fd) (c__law_draw : Cal P w K mg base 1 "_law_draw" ["d", "many"] g__law_draw) : FnOk P w K mg base CX0 2 f fd ["d", "row"] (spD K 2 g__law_shuffled) :=
  fn_ok F sc__law_shuffled (by decide) (fun cdv A outer s H E hr G =>
  (bd_cons (sd_set 2 (zb_list rfl M.f_list (ad_cons (ed_var 1) ad_nil)) sc__law_shuffled.nd)
 (bd_cons (sd_set 3 (rd_lst qd_nil) sc__law_shuffled.nd)
 (bd_cons (sd_for PassesOwn.never rfl (id_range1 rfl M.f_range (qd_cons (pd_rd (rd_len rfl M.f_len (ed_var 2))) qd_nil)) (gd_name 4 sc__law_shuffled.nd)
 (bd_one (sd_expr (ed_pd (zl_append 3 (qd_cons (zl_popAt 2 (ad_cons (ed_pd (pd_rd (rd_cal c__law_draw hr (by decide) rfl (ad_cons (ed_var 0) (ad_cons (ed_pd (pd_rd (rd_len rfl M.f_len (ed_var 2)))) ad_nil)) (many_cons (many_cons many_nil))))) ad_nil)) qd_nil))))))
 (bd_one (sd_retV 3))))))
/-! _law_drawn_signal: 0 d, 1 size -/
abbrev s__law_drawn_signal : Stmt := top 11
abbrev N__law_drawn_signal : List Str := ["d", "size"]
theorem sc__law_drawn_signal : FnScope ["d", "size"] ["d", "size"] (defScope s__law_drawn_signal) := ⟨rfl, rfl, rfl, by decide +kernel, rfl, by decide +kernel, by decide +kernel⟩
noncomputable def b__law_drawn_signal : Os := (oRet (oCB fMax2 (oCons (oPu (oFrz (oCall g__law_draw (oCons (oVar 0) (oCons (oPu (oKeep (oVar 1))) oNil))))) (oCons (oPu (oFrz (oCall g__law_draw (oCons (oVar 0) (oCons (oPu (oKeep (oVar 1))) oNil))))) oNil))))
noncomputable def g__law_drawn_signal : Fn := fnOf 2 b__law_drawn_signal
theorem ok__law_drawn_signal {P : Program} {w : World} {K : PySem.W.Frag} {mg : Str → Option Value} {base : Heap} {f : Addr} {fd : FuncData} (M : Mg K mg) (F : FnP K "_law_drawn_signal" s__law_drawn_signal f fd) (c__law_draw : Cal P w K mg base 1 "_law_draw" ["d", "many"] g__law_draw) : FnOk P w K mg base CX0 2 f fd ["d", "size"] (spD K 2 g__law_drawn_signal) :=
  fn_ok F sc__law_drawn_signal (by decide) (fun cdv A outer s H E hr G =>
  (bd_one (sd_ret (zb_max2 rfl rfl M.f_max (ad_cons (ed_pd (pd_rd (rd_cal c__law_draw hr (by decide) rfl (ad_cons (ed_var 0) (ad_cons (ed_pd (pd_ed (ed_var 1))) ad_nil)) (many_cons (many_cons many_nil))))) (ad_cons (ed_pd (pd_rd (rd_cal c__law_draw hr (by decide) rfl (ad_cons (ed_var 0) (ad_cons (ed_pd (pd_ed (ed_var 1))) ad_nil)) (many_cons (many_cons many_nil))))) ad_nil))))))
/-! _law_library: 0 d, 1 extra, 2 names, 3 rows, 4 k, 5 cells, 6 pins -/
abbrev s__law_library : Stmt := top 12
abbrev N__law_library : List Str := ["d", "extra", "names", "rows", "k", "cells", "pins"]
theorem sc__law_library : FnScope ["d", "extra", "names", "rows", "k", "cells", "pins"] ["d", "extra"] (defScope s__law_library) := ⟨rfl, rfl, rfl, by decide +kernel, rfl, by decide +kernel, by decide +kernel⟩
noncomputable def C1__law_library : O D := (oTup (oCons (oFrz (oBin fIx (oVar 2) (oVar 4))) (oCons (oFrz (oBin fIx (oPu (oFrz (oBin fIx (oVar 3) (oVar 4)))) (oPu (oC (.int 0))))) (oCons (oFrz (oBin fIx (oPu (oFrz (oBin fIx (oVar 3) (oVar 4)))) (oPu (oC (.int 1))))) (oCons (oFrz (oCall g__law_draw (oCons (oVar 0) (oCons (oPu (oC (.int 10))) oNil)))) (oCons (oFrz (oCall g__law_draw (oCons (oVar 0) (oCons (oPu (oC (.int 5))) oNil)))) oNil))))))
noncomputable def L1__law_library : Os := (oSeq (oSet 6 (oBin fIx (oPu (oFrz (oLst (oCons (oC (.int 1)) (oCons (oC (.int 2)) (oCons (oC (.int 2)) (oCons (oC (.int 3)) (oCons (oC (.int 3)) (oCons (oC (.int 0)) oNil))))))))) (oPu (oFrz (oCall g__law_draw (oCons (oVar 0) (oCons (oPu (oC (.int 6))) oNil)))))))
 (oDrop (oPu (oMutK 3 fAppend (oCons (oTup (oCons (oFrz (oCall g__law_draw (oCons (oVar 0) (oCons (oPu (oFrz (oBin fShl (oPu (oC (.int 1))) (oPu (oFrz (oBin fShl (oPu (oC (.int 1))) (oVar 6))))))) oNil)))) (oCons (oKeep (oVar 6)) oNil))) oNil)))))
noncomputable def b__law_library : Os := (oSeq (oSet 2 (oCall g__law_shuffled (oCons (oVar 0) (oCons (oPu (oFrz (oLst (oCons (oC (.str "x1")) (oCons (oC (.str "inv")) (oCons (oC (.str "nd2")) (oCons (oC (.str "tie0")) (oCons (oC (.str "tie1")) (oCons (oC (.str "ao")) (oCons (oC (.str "big")) (oCons (oC (.str "mux2")) (oCons (oC (.str "buf")) (oCons (oC (.str "z")) (oCons (oC (.str "nor")) (oCons (oC (.str "maj3")) (oCons (oC (.str "q9")) oNil)))))))))))))))) oNil))))
 (oSeq (oSet 3 (oLst (oCons (oTup (oCons (oC (.int 0)) (oCons (oC (.int 0)) oNil))) (oCons (oTup (oCons (oC (.int 1)) (oCons (oC (.int 0)) oNil))) (oCons (oTup (oCons (oC (.int 1)) (oCons (oC (.int 1)) oNil))) (oCons (oTup (oCons (oC (.int 7)) (oCons (oC (.int 2)) oNil))) oNil))))))
 (oSeq (oFor (oRange (oCons (oKeep (oVar 1)) oNil)) (gNm 4)
 L1__law_library)
 (oSeq (oSet 3 (oCall g__law_shuffled (oCons (oVar 0) (oCons (oPu (oKeep (oVar 3))) oNil))))
 (oSeq (oSet 5 (oLc [4] (oRange (oCons (oFrz (oLen (oVar 3))) oNil)) (gNm 4) oYes C1__law_library))
 (oRet (oCB fTuple (oCons (oVar 5) oNil))))))))
noncomputable def g__law_library : Fn := fnOf 7 b__law_library
theorem ok__law_library {P : Program} {w : World} {K : PySem.W.Frag} {mg : Str → Option Value} {base : Heap} {f : Addr} {fd : FuncData} (M : Mg K mg) (F : FnP K "_law_library" s__law_library f fd) (c__law_draw : Cal P w K mg base 1 "_law_draw" ["d", "many"] g__law_draw) (c__law_shuffled : Cal P w K mg base 2 "_law_shuffled" ["d", "row"] g__law_shuffled) : FnOk P w K mg base CX0 3 f fd ["d", "extra"] (spD K 2 g__law_library) :=
  fn_ok F sc__law_library (by decide) (fun cdv A outer s H E hr G =>
  (bd_cons (sd_set 2 (rd_cal c__law_shuffled hr (by decide) rfl (ad_cons (ed_var 0) (ad_cons (ed_pd (pd_rd (rd_lst (qd_cons pd_str (qd_cons pd_str (qd_cons pd_str (qd_cons pd_str (qd_cons pd_str (qd_cons pd_str (qd_cons pd_str (qd_cons pd_str (qd_cons pd_str (qd_cons pd_str (qd_cons pd_str (qd_cons pd_str (qd_cons pd_str qd_nil)))))))))))))))) ad_nil)) (many_cons (many_cons many_nil))) sc__law_library.nd)
 (bd_cons (sd_set 3 (rd_lst (qd_cons (pd_tup (qd_cons pd_int (qd_cons pd_int qd_nil))) (qd_cons (pd_tup (qd_cons pd_int (qd_cons pd_int qd_nil))) (qd_cons (pd_tup (qd_cons pd_int (qd_cons pd_int qd_nil))) (qd_cons (pd_tup (qd_cons pd_int (qd_cons pd_int qd_nil))) qd_nil))))) sc__law_library.nd)
 (bd_cons (sd_for PassesOwn.never rfl (id_range1 rfl M.f_range (qd_cons (pd_ed (ed_var 1)) qd_nil)) (gd_name 4 sc__law_library.nd)
 (bd_cons (sd_set 6 (rd_ix (ed_pd (pd_rd (rd_lst (qd_cons pd_int (qd_cons pd_int (qd_cons pd_int (qd_cons pd_int (qd_cons pd_int (qd_cons pd_int qd_nil))))))))) (ed_pd (pd_rd (rd_cal c__law_draw hr (by decide) rfl (ad_cons (ed_var 0) (ad_cons (ed_pd pd_int) ad_nil)) (many_cons (many_cons many_nil)))))) sc__law_library.nd)
 (bd_one (sd_expr (ed_pd (zl_append 3 (qd_cons (pd_tup (qd_cons (pd_rd (rd_cal c__law_draw hr (by decide) rfl (ad_cons (ed_var 0) (ad_cons (ed_pd (pd_rd (rd_shl (ed_pd pd_int) (ed_pd (pd_rd (rd_shl (ed_pd pd_int) (ed_var 6))))))) ad_nil)) (many_cons (many_cons many_nil)))) (qd_cons (pd_ed (ed_var 6)) qd_nil))) qd_nil)))))))
 (bd_cons (sd_set 3 (rd_cal c__law_shuffled hr (by decide) rfl (ad_cons (ed_var 0) (ad_cons (ed_pd (pd_ed (ed_var 3))) ad_nil)) (many_cons (many_cons many_nil))) sc__law_library.nd)
 (bd_cons (sd_setLc 5 (own := [("k", 4)]) (T := [4]) rfl sc__law_library.nd (by decide) rfl rfl (sw_true rfl rfl rfl (by decide +kernel)) (id_range1 rfl M.f_range (qd_cons (pd_rd (rd_len rfl M.f_len (ed_var 3))) qd_nil)) (blkOk_by (N := N__law_library) (sc := defScope s__law_library) (by decide +kernel)) (fun _ _ _ _ _ _ => (gd_name 4 sc__law_library.nd)) (fun _ _ _ _ _ _ => tsd_nil) (fun _ _ _ _ _ _ => (pd_tup (qd_cons (pd_rd (rd_ix (ed_var 2) (ed_var 4))) (qd_cons (pd_rd (rd_ix (ed_pd (pd_rd (rd_ix (ed_var 3) (ed_var 4)))) (ed_pd pd_int))) (qd_cons (pd_rd (rd_ix (ed_pd (pd_rd (rd_ix (ed_var 3) (ed_var 4)))) (ed_pd pd_int))) (qd_cons (pd_rd (rd_cal c__law_draw hr (by decide) rfl (ad_cons (ed_var 0) (ad_cons (ed_pd pd_int) ad_nil)) (many_cons (many_cons many_nil)))) (qd_cons (pd_rd (rd_cal c__law_draw hr (by decide) rfl (ad_cons (ed_var 0) (ad_cons (ed_pd pd_int) ad_nil)) (many_cons (many_cons many_nil)))) qd_nil))))))))
 (bd_one (sd_ret (zb_tuple rfl M.f_tuple (ad_cons (ed_var 5) ad_nil))))))))))
/-! _law_drawn_mapped: 0 d, 1 inputs, 2 regs, 3 cells, 4 outs, 5 library, 6 first, 7 named, 8 made, 9 k, 10 size, 11 names, 12 held, 13 many, 14 shown, 15 cell, 16 j -/
abbrev s__law_drawn_mapped : Stmt := top 13
abbrev N__law_drawn_mapped : List Str := ["d", "inputs", "regs", "cells", "outs", "library", "first", "named", "made", "k", "size", "names", "held", "many", "shown", "cell", "j"]
theorem sc__law_drawn_mapped : FnScope ["d", "inputs", "regs", "cells", "outs", "library", "first", "named", "made", "k", "size", "names", "held", "many", "shown", "cell", "j"] ["d", "inputs", "regs", "cells", "outs", "library"] (defScope s__law_drawn_mapped) := ⟨rfl, rfl, rfl, by decide +kernel, rfl, by decide +kernel, by decide +kernel⟩
noncomputable def C1__law_drawn_mapped : O D := (oTup (oCons (oFrz (oBin fAdd (oPu (oFrz (oBin fAdd (oPu (oC (.str "o"))) (oPu (oFrz (oCB fStr1 (oCons (oVar 9) oNil))))))) (oPu (oC (.str ".0"))))) (oCons (oFrz (oCall g__law_drawn_signal (oCons (oVar 0) (oCons (oPu (oKeep (oVar 10))) oNil)))) oNil)))
noncomputable def C2__law_drawn_mapped : O D := (oTup (oCons (oFrz (oBin fAdd (oPu (oFrz (oBin fAdd (oPu (oC (.str "q"))) (oPu (oFrz (oCB fStr1 (oCons (oVar 9) oNil))))))) (oPu (oC (.str ".0"))))) (oCons (oFrz (oCall g__law_draw (oCons (oVar 0) (oCons (oPu (oC (.int 2))) oNil)))) (oCons (oFrz (oCall g__law_drawn_signal (oCons (oVar 0) (oCons (oPu (oKeep (oVar 10))) oNil)))) oNil))))
noncomputable def C3__law_drawn_mapped : O D := (oFrz (oCall g__law_drawn_signal (oCons (oVar 0) (oCons (oPu (oFrz (oBin fAdd (oVar 6) (oVar 9)))) oNil))))
noncomputable def L1__law_drawn_mapped : Os := (oSeq (oSet 15 (oBin fIx (oVar 7) (oPu (oFrz (oCB fMax2 (oCons (oPu (oFrz (oBin fSub (oPu (oFrz (oBin fSub (oPu (oFrz (oLen (oVar 7)))) (oPu (oC (.int 1)))))) (oPu (oFrz (oCall g__law_draw (oCons (oVar 0) (oCons (oPu (oFrz (oBin fAdd (oPu (oFrz (oLen (oVar 7)))) (oPu (oC (.int 3)))))) oNil)))))))) (oCons (oPu (oC (.int 0))) oNil)))))))
 (oSeq (oIfS (oTst (oBin fEq (oPu (oFrz (oBin fAdd (oVar 6) (oVar 9)))) (oPu (oC (.int 0)))))
 (oSet 15 (oBin fIx (oVar 7) (oPu (oFrz (oUn fNeg (oPu (oC (.int 1))))))))
 oNext)
 (oDrop (oPu (oMutK 8 fAppend (oCons (oTup (oCons (oFrz (oBin fIx (oVar 15) (oPu (oC (.int 0))))) (oCons (oFrz (oCB fTuple (oCons (oPu (oFrz (oLc [16] (oRange (oCons (oFrz (oBin fIx (oVar 15) (oPu (oC (.int 2))))) oNil)) (gNm 16) oYes C3__law_drawn_mapped))) oNil))) oNil))) oNil))))))
noncomputable def C4__law_drawn_mapped : O D := (oKeep (oVar 15))
noncomputable def T1__law_drawn_mapped : O Bool := (oTst (oBin fGt (oPu (oFrz (oBin fIx (oVar 15) (oPu (oC (.int 2)))))) (oPu (oC (.int 0)))))
noncomputable def C5__law_drawn_mapped : O D := (oKeep (oVar 15))
noncomputable def T2__law_drawn_mapped : O Bool := (oTst (oBin fEq (oPu (oFrz (oBin fIx (oVar 15) (oPu (oC (.int 2)))))) (oPu (oC (.int 0)))))
noncomputable def b__law_drawn_mapped : Os := (oSeq (oSet 6 (oBin fAdd (oVar 1) (oVar 2)))
 (oSeq (oSet 7 (oBin fAdd (oPu (oFrz (oLc [15] (oItm (oVar 5)) (gNm 15) T1__law_drawn_mapped C4__law_drawn_mapped))) (oPu (oFrz (oLc [15] (oItm (oVar 5)) (gNm 15) T2__law_drawn_mapped C5__law_drawn_mapped)))))
 (oSeq (oSet 8 (oLst oNil))
 (oSeq (oFor (oRange (oCons (oKeep (oVar 3)) oNil)) (gNm 9)
 L1__law_drawn_mapped)
 (oSeq (oSet 10 (oBin fAdd (oVar 6) (oVar 3)))
 (oSeq (oSet 11 (oCB fTuple (oCons (oPu (oFrz (oSl (oPu (oFrz (oCall g__law_shuffled (oCons (oVar 0) (oCons (oPu (oFrz (oLst (oCons (oC (.str "a.0")) (oCons (oC (.str "b2.0")) (oCons (oC (.str "b2.1")) (oCons (oC (.str "sum.0")) (oCons (oC (.str "r.0")) (oCons (oC (.str "z9z.0")) oNil))))))))) oNil))))) oNoPart (oPart (oKeep (oVar 1)))))) oNil)))
 (oSeq (oSet 12 (oCB fTuple (oCons (oPu (oFrz (oLc [9] (oRange (oCons (oKeep (oVar 2)) oNil)) (gNm 9) oYes C2__law_drawn_mapped))) oNil)))
 (oSeq (oSet 13 (oRes (oKeep (oIf (oTst (oBin fGt (oVar 10) (oPu (oC (.int 0))))) (oVar 4) (oPu (oC (.int 0)))))))
 (oSeq (oSet 14 (oCB fTuple (oCons (oPu (oFrz (oLc [9] (oRange (oCons (oKeep (oVar 13)) oNil)) (gNm 9) oYes C1__law_drawn_mapped))) oNil)))
 (oRet (oRes (oTup (oCons (oKeep (oVar 11)) (oCons (oKeep (oVar 12)) (oCons (oFrz (oCB fTuple (oCons (oVar 8) oNil))) (oCons (oKeep (oVar 14)) oNil))))))))))))))))
noncomputable def g__law_drawn_mapped : Fn := fnOf 17 b__law_drawn_mapped
theorem ok__law_drawn_mapped {P : Program} {w : World} {K : PySem.W.Frag} {mg : Str → Option Value} {base : Heap} {f : Addr} {fd : FuncData} (M : Mg K mg) (F : FnP K "_law_drawn_mapped" s__law_drawn_mapped f fd) (c__law_draw : Cal P w K mg base 1 "_law_draw" ["d", "many"] g__law_draw) (c__law_drawn_signal : Cal P w K mg base 2 "_law_drawn_signal" ["d", "size"] g__law_drawn_signal) (c__law_shuffled : Cal P w K mg base 2 "_law_shuffled" ["d", "row"] g__law_shuffled) : FnOk P w K mg base CX0 3 f fd ["d", "inputs", "regs", "cells", "outs", "library"] (spD K 6 g__law_drawn_mapped) :=
  fn_ok F sc__law_drawn_mapped (by decide) (fun cdv A outer s H E hr G =>
  (bd_cons (sd_set 6 (rd_add (ed_var 1) (ed_var 2)) sc__law_drawn_mapped.nd)
 (bd_cons (sd_set 7 (rd_add (ed_pd (pd_rd (rd_lc (own := [("cell", 15)]) (T := [15]) rfl sc__law_drawn_mapped.nd (by decide) (id_seq (ed_var 5)) (blkOk_by (N := N__law_drawn_mapped) (sc := defScope s__law_drawn_mapped) (by decide +kernel)) (fun _ _ _ _ _ _ => (gd_name 15 sc__law_drawn_mapped.nd)) (fun _ _ _ _ _ _ => (tsd_one (td_ck ck_gt (ed_pd (pd_rd (rd_ix (ed_var 15) (ed_pd pd_int)))) (ed_pd pd_int)))) (fun _ _ _ _ _ _ => (pd_ed (ed_var 15)))))) (ed_pd (pd_rd (rd_lc (own := [("cell", 15)]) (T := [15]) rfl sc__law_drawn_mapped.nd (by decide) (id_seq (ed_var 5)) (blkOk_by (N := N__law_drawn_mapped) (sc := defScope s__law_drawn_mapped) (by decide +kernel)) (fun _ _ _ _ _ _ => (gd_name 15 sc__law_drawn_mapped.nd)) (fun _ _ _ _ _ _ => (tsd_one (td_ck (ck_eq hr) (ed_pd (pd_rd (rd_ix (ed_var 15) (ed_pd pd_int)))) (ed_pd pd_int)))) (fun _ _ _ _ _ _ => (pd_ed (ed_var 15))))))) sc__law_drawn_mapped.nd)
 (bd_cons (sd_set 8 (rd_lst qd_nil) sc__law_drawn_mapped.nd)
 (bd_cons (sd_for PassesOwn.never rfl (id_range1 rfl M.f_range (qd_cons (pd_ed (ed_var 3)) qd_nil)) (gd_name 9 sc__law_drawn_mapped.nd)
 (bd_cons (sd_set 15 (rd_ix (ed_var 7) (ed_pd (pd_rd (zb_max2 rfl rfl M.f_max (ad_cons (ed_pd (pd_rd (rd_sub (ed_pd (pd_rd (rd_sub (ed_pd (pd_rd (rd_len rfl M.f_len (ed_var 7)))) (ed_pd pd_int)))) (ed_pd (pd_rd (rd_cal c__law_draw hr (by decide) rfl (ad_cons (ed_var 0) (ad_cons (ed_pd (pd_rd (rd_add (ed_pd (pd_rd (rd_len rfl M.f_len (ed_var 7)))) (ed_pd pd_int)))) ad_nil)) (many_cons (many_cons many_nil)))))))) (ad_cons (ed_pd pd_int) ad_nil)))))) sc__law_drawn_mapped.nd)
 (bd_cons (sd_if (td_ck (ck_eq hr) (ed_pd (pd_rd (rd_add (ed_var 6) (ed_var 9)))) (ed_pd pd_int))
 (bd_one (sd_set 15 (rd_ix (ed_var 7) (ed_pd (pd_rd (rd_neg (ed_pd pd_int))))) sc__law_drawn_mapped.nd))
 bd_nil)
 (bd_one (sd_expr (ed_pd (zl_append 8 (qd_cons (pd_tup (qd_cons (pd_rd (rd_ix (ed_var 15) (ed_pd pd_int))) (qd_cons (pd_rd (zb_tuple rfl M.f_tuple (ad_cons (ed_pd (pd_rd (rd_lc (own := [("j", 16)]) (T := [16]) rfl sc__law_drawn_mapped.nd (by decide) (id_range1 rfl M.f_range (qd_cons (pd_rd (rd_ix (ed_var 15) (ed_pd pd_int))) qd_nil)) (blkOk_by (N := N__law_drawn_mapped) (sc := defScope s__law_drawn_mapped) (by decide +kernel)) (fun _ _ _ _ _ _ => (gd_name 16 sc__law_drawn_mapped.nd)) (fun _ _ _ _ _ _ => tsd_nil) (fun _ _ _ _ _ _ => (pd_rd (rd_cal c__law_drawn_signal hr (by decide) rfl (ad_cons (ed_var 0) (ad_cons (ed_pd (pd_rd (rd_add (ed_var 6) (ed_var 9)))) ad_nil)) (many_cons (many_cons many_nil)))))))) ad_nil))) qd_nil))) qd_nil))))))))
 (bd_cons (sd_set 10 (rd_add (ed_var 6) (ed_var 3)) sc__law_drawn_mapped.nd)
 (bd_cons (sd_set 11 (zb_tuple rfl M.f_tuple (ad_cons (ed_pd (pd_rd (rd_sl (ed_pd (pd_rd (rd_cal c__law_shuffled hr (by decide) rfl (ad_cons (ed_var 0) (ad_cons (ed_pd (pd_rd (rd_lst (qd_cons pd_str (qd_cons pd_str (qd_cons pd_str (qd_cons pd_str (qd_cons pd_str (qd_cons pd_str qd_nil))))))))) ad_nil)) (many_cons (many_cons many_nil))))) od_none (od_some (pd_ed (ed_var 1)))))) ad_nil)) sc__law_drawn_mapped.nd)
 (bd_cons (sd_set 12 (zb_tuple rfl M.f_tuple (ad_cons (ed_pd (pd_rd (rd_lc (own := [("k", 9)]) (T := [9]) rfl sc__law_drawn_mapped.nd (by decide) (id_range1 rfl M.f_range (qd_cons (pd_ed (ed_var 2)) qd_nil)) (blkOk_by (N := N__law_drawn_mapped) (sc := defScope s__law_drawn_mapped) (by decide +kernel)) (fun _ _ _ _ _ _ => (gd_name 9 sc__law_drawn_mapped.nd)) (fun _ _ _ _ _ _ => tsd_nil) (fun _ _ _ _ _ _ => (pd_tup (qd_cons (pd_rd (rd_add (ed_pd (pd_rd (rd_add (ed_pd pd_str) (ed_pd (pd_rd (zb_str rfl M.f_str (ad_cons (ed_var 9) ad_nil))))))) (ed_pd pd_str))) (qd_cons (pd_rd (rd_cal c__law_draw hr (by decide) rfl (ad_cons (ed_var 0) (ad_cons (ed_pd pd_int) ad_nil)) (many_cons (many_cons many_nil)))) (qd_cons (pd_rd (rd_cal c__law_drawn_signal hr (by decide) rfl (ad_cons (ed_var 0) (ad_cons (ed_pd (pd_ed (ed_var 10))) ad_nil)) (many_cons (many_cons many_nil)))) qd_nil)))))))) ad_nil)) sc__law_drawn_mapped.nd)
 (bd_cons (sd_set 13 (rd_pd (pd_ed (ed_if (td_ck ck_gt (ed_var 10) (ed_pd pd_int)) (ed_var 4) (ed_pd pd_int)))) sc__law_drawn_mapped.nd)
 (bd_cons (sd_set 14 (zb_tuple rfl M.f_tuple (ad_cons (ed_pd (pd_rd (rd_lc (own := [("k", 9)]) (T := [9]) rfl sc__law_drawn_mapped.nd (by decide) (id_range1 rfl M.f_range (qd_cons (pd_ed (ed_var 13)) qd_nil)) (blkOk_by (N := N__law_drawn_mapped) (sc := defScope s__law_drawn_mapped) (by decide +kernel)) (fun _ _ _ _ _ _ => (gd_name 9 sc__law_drawn_mapped.nd)) (fun _ _ _ _ _ _ => tsd_nil) (fun _ _ _ _ _ _ => (pd_tup (qd_cons (pd_rd (rd_add (ed_pd (pd_rd (rd_add (ed_pd pd_str) (ed_pd (pd_rd (zb_str rfl M.f_str (ad_cons (ed_var 9) ad_nil))))))) (ed_pd pd_str))) (qd_cons (pd_rd (rd_cal c__law_drawn_signal hr (by decide) rfl (ad_cons (ed_var 0) (ad_cons (ed_pd (pd_ed (ed_var 10))) ad_nil)) (many_cons (many_cons many_nil)))) qd_nil))))))) ad_nil)) sc__law_drawn_mapped.nd)
 (bd_one (sd_ret (rd_pd (pd_tup (qd_cons (pd_ed (ed_var 11)) (qd_cons (pd_ed (ed_var 12)) (qd_cons (pd_rd (zb_tuple rfl M.f_tuple (ad_cons (ed_var 8) ad_nil))) (qd_cons (pd_ed (ed_var 14)) qd_nil))))))))))))))))))
/-! _law_blocks: 0 mapped, 1 many, 2 found, 3 k, 4 name, 5 sources, 6 source, 7 s -/
abbrev s__law_blocks : Stmt := top 14
abbrev N__law_blocks : List Str := ["mapped", "many", "found", "k", "name", "sources", "source", "s"]
theorem sc__law_blocks : FnScope ["mapped", "many", "found", "k", "name", "sources", "source", "s"] ["mapped"] (defScope s__law_blocks) := ⟨rfl, rfl, rfl, by decide +kernel, rfl, by decide +kernel, by decide +kernel⟩
noncomputable def L1__law_blocks : Os := (oDrop (oPu (oMutK 2 fAppend (oCons (oFrz (oLst (oCons (oTup (oCons (oKeep (oVar 6)) (oCons (oC (.int 0)) oNil))) oNil))) oNil))))
noncomputable def C1__law_blocks : O D := (oTup (oCons (oKeep (oVar 7)) (oCons (oC (.int 0)) oNil)))
noncomputable def L2__law_blocks : Os := (oDrop (oPu (oMutK 2 fAppend (oCons (oFrz (oBin fAdd (oPu (oFrz (oLc [7] (oItm (oVar 5)) (gNm 7) oYes C1__law_blocks))) (oPu (oFrz (oLst (oCons (oTup (oCons (oFrz (oLen (oVar 2))) (oCons (oC (.int 1)) oNil))) oNil)))))) oNil))))
noncomputable def L3__law_blocks : Os := (oDrop (oPu (oMutK 2 fAppend (oCons (oFrz (oLst (oCons (oTup (oCons (oFrz (oBin fIx (oPu (oFrz (oBin fIx (oPu (oFrz (oBin fIx (oVar 0) (oPu (oC (.int 1)))))) (oVar 3)))) (oPu (oC (.int 2))))) (oCons (oC (.int 0)) oNil))) (oCons (oTup (oCons (oFrz (oBin fAdd (oVar 1) (oVar 3))) (oCons (oC (.int 1)) oNil))) oNil)))) oNil))))
noncomputable def C2__law_blocks : O D := (oFrz (oLst (oCons (oTup (oCons (oKeep (oVar 3)) (oCons (oC (.int 1)) oNil))) oNil)))
noncomputable def b__law_blocks : Os := (oSeq (oSet 1 (oLen (oPu (oFrz (oBin fIx (oVar 0) (oPu (oC (.int 0))))))))
 (oSeq (oSet 2 (oLc [3] (oRange (oCons (oKeep (oVar 1)) oNil)) (gNm 3) oYes C2__law_blocks))
 (oSeq (oFor (oRange (oCons (oFrz (oLen (oPu (oFrz (oBin fIx (oVar 0) (oPu (oC (.int 1)))))))) oNil)) (gNm 3)
 L3__law_blocks)
 (oSeq (oFor (oItm (oPu (oFrz (oBin fIx (oVar 0) (oPu (oC (.int 2))))))) (gTp 2 (gCn (gNm 4) (gCn (gNm 5) gNl)))
 L2__law_blocks)
 (oSeq (oFor (oItm (oPu (oFrz (oBin fIx (oVar 0) (oPu (oC (.int 3))))))) (gTp 2 (gCn (gNm 4) (gCn (gNm 6) gNl)))
 L1__law_blocks)
 (oRetV 2))))))
noncomputable def g__law_blocks : Fn := fnOf 8 b__law_blocks
theorem ok__law_blocks {P : Program} {w : World} {K : PySem.W.Frag} {mg : Str → Option Value} {base : Heap} {f : Addr} {fd : FuncData} (M : Mg K mg) (F : FnP K "_law_blocks" s__law_blocks f fd) : FnOk P w K mg base CX0 1 f fd ["mapped"] (spD K 1 g__law_blocks) :=
  fn_ok F sc__law_blocks (by decide) (fun cdv A outer s H E hr G =>
  (bd_cons (sd_set 1 (rd_len rfl M.f_len (ed_pd (pd_rd (rd_ix (ed_var 0) (ed_pd pd_int))))) sc__law_blocks.nd)
 (bd_cons (sd_setLc 2 (own := [("k", 3)]) (T := [3]) rfl sc__law_blocks.nd (by decide) rfl rfl (sw_true rfl rfl rfl (by decide +kernel)) (id_range1 rfl M.f_range (qd_cons (pd_ed (ed_var 1)) qd_nil)) (blkOk_by (N := N__law_blocks) (sc := defScope s__law_blocks) (by decide +kernel)) (fun _ _ _ _ _ _ => (gd_name 3 sc__law_blocks.nd)) (fun _ _ _ _ _ _ => tsd_nil) (fun _ _ _ _ _ _ => (pd_rd (rd_lst (qd_cons (pd_tup (qd_cons (pd_ed (ed_var 3)) (qd_cons pd_int qd_nil))) qd_nil)))))
 (bd_cons (sd_for PassesOwn.never rfl (id_range1 rfl M.f_range (qd_cons (pd_rd (rd_len rfl M.f_len (ed_pd (pd_rd (rd_ix (ed_var 0) (ed_pd pd_int)))))) qd_nil)) (gd_name 3 sc__law_blocks.nd)
 (bd_one (sd_expr (ed_pd (zl_append 2 (qd_cons (pd_rd (rd_lst (qd_cons (pd_tup (qd_cons (pd_rd (rd_ix (ed_pd (pd_rd (rd_ix (ed_pd (pd_rd (rd_ix (ed_var 0) (ed_pd pd_int)))) (ed_var 3)))) (ed_pd pd_int))) (qd_cons pd_int qd_nil))) (qd_cons (pd_tup (qd_cons (pd_rd (rd_add (ed_var 1) (ed_var 3))) (qd_cons pd_int qd_nil))) qd_nil)))) qd_nil))))))
 (bd_cons (sd_for PassesOwn.never rfl (id_seq (ed_pd (pd_rd (rd_ix (ed_var 0) (ed_pd pd_int))))) (gd_tup rfl (gds_cons (gd_name 4 sc__law_blocks.nd) (gds_cons (gd_name 5 sc__law_blocks.nd) gds_nil)))
 (bd_one (sd_expr (ed_pd (zl_append 2 (qd_cons (pd_rd (rd_add (ed_pd (pd_rd (rd_lc (own := [("s", 7)]) (T := [7]) rfl sc__law_blocks.nd (by decide) (id_seq (ed_var 5)) (blkOk_by (N := N__law_blocks) (sc := defScope s__law_blocks) (by decide +kernel)) (fun _ _ _ _ _ _ => (gd_name 7 sc__law_blocks.nd)) (fun _ _ _ _ _ _ => tsd_nil) (fun _ _ _ _ _ _ => (pd_tup (qd_cons (pd_ed (ed_var 7)) (qd_cons pd_int qd_nil))))))) (ed_pd (pd_rd (rd_lst (qd_cons (pd_tup (qd_cons (pd_rd (rd_len rfl M.f_len (ed_var 2))) (qd_cons pd_int qd_nil))) qd_nil)))))) qd_nil))))))
 (bd_cons (sd_for PassesOwn.never rfl (id_seq (ed_pd (pd_rd (rd_ix (ed_var 0) (ed_pd pd_int))))) (gd_tup rfl (gds_cons (gd_name 4 sc__law_blocks.nd) (gds_cons (gd_name 6 sc__law_blocks.nd) gds_nil)))
 (bd_one (sd_expr (ed_pd (zl_append 2 (qd_cons (pd_rd (rd_lst (qd_cons (pd_tup (qd_cons (pd_ed (ed_var 6)) (qd_cons pd_int qd_nil))) qd_nil))) qd_nil))))))
 (bd_one (sd_retV 2))))))))
/-! _law_drawn_placement: 0 d, 1 rows, 2 mapped, 3 lines, 4 block, 5 k, 6 line -/
abbrev s__law_drawn_placement : Stmt := top 15
abbrev N__law_drawn_placement : List Str := ["d", "rows", "mapped", "lines", "block", "k", "line"]
theorem sc__law_drawn_placement : FnScope ["d", "rows", "mapped", "lines", "block", "k", "line"] ["d", "rows", "mapped"] (defScope s__law_drawn_placement) := ⟨rfl, rfl, rfl, by decide +kernel, rfl, by decide +kernel, by decide +kernel⟩
noncomputable def C1__law_drawn_placement : O D := (oFrz (oCB fTuple (oCons (oVar 6) oNil)))
noncomputable def L1__law_drawn_placement : Os := (oDrop (oPu (oAppLL 3 (oFrz (oCall g__law_draw (oCons (oVar 0) (oCons (oPu (oKeep (oVar 1))) oNil)))) (oKeep (oVar 4)))))
noncomputable def C2__law_drawn_placement : O Rs := (oLst oNil)
noncomputable def b__law_drawn_placement : Os := (oSeq (oMkLL 3 [5] (oRange (oCons (oKeep (oVar 1)) oNil)) (gNm 5) C2__law_drawn_placement)
 (oSeq (oFor (oItm (oPu (oFrz (oCall g__law_shuffled (oCons (oVar 0) (oCons (oPu (oFrz (oLrg1 (oFrz (oLen (oPu (oFrz (oCall g__law_blocks (oCons (oPu (oKeep (oVar 2))) oNil))))))))) oNil)))))) (gNm 4)
 L1__law_drawn_placement)
 (oRet (oCB fTuple (oCons (oPu (oFrz (oLc [6] (oItm (oPu (oFrzLL 3))) (gNm 6) oYes C1__law_drawn_placement))) oNil)))))
noncomputable def g__law_drawn_placement : Fn := fnOf 7 b__law_drawn_placement
theorem ok__law_drawn_placement {P : Program} {w : World} {K : PySem.W.Frag} {mg : Str → Option Value} {base : Heap} {f : Addr} {fd : FuncData} (M : Mg K mg) (F : FnP K "_law_drawn_placement" s__law_drawn_placement f fd) (c__law_blocks : Cal P w K mg base 1 "_law_blocks" ["mapped"] g__law_blocks) (c__law_draw : Cal P w K mg base 1 "_law_draw" ["d", "many"] g__law_draw) (c__law_shuffled : Cal P w K mg base 2 "_law_shuffled" ["d", "row"] g__law_shuffled) : FnOk P w K mg base CX0 3 f fd ["d", "rows", "mapped"] (spD K 3 g__law_drawn_placement) :=
  fn_ok F sc__law_drawn_placement (by decide) (fun cdv A outer s H E hr G =>
  (bd_cons (sd_mkLLc 3 (own := [("k", 5)]) (T := [5]) rfl sc__law_drawn_placement.nd (by decide) rfl rfl (sw_true rfl rfl rfl (by decide +kernel)) (id_range1 rfl M.f_range (qd_cons (pd_ed (ed_var 1)) qd_nil)) (blkOk_by (N := N__law_drawn_placement) (sc := defScope s__law_drawn_placement) (by decide +kernel)) (fun _ _ _ _ _ _ => (gd_name 5 sc__law_drawn_placement.nd)) (fun _ _ _ _ _ _ => (rd_lst qd_nil)))
 (bd_cons (sd_for PassesOwn.never rfl (id_seq (ed_pd (pd_rd (rd_cal c__law_shuffled hr (by decide) rfl (ad_cons (ed_var 0) (ad_cons (ed_pd (pd_rd (rd_lrg1 rfl rfl M.f_list rfl M.f_range (pd_rd (rd_len rfl M.f_len (ed_pd (pd_rd (rd_cal c__law_blocks hr (by decide) rfl (ad_cons (ed_pd (pd_ed (ed_var 2))) ad_nil) (many_cons many_nil))))))))) ad_nil)) (many_cons (many_cons many_nil)))))) (gd_name 4 sc__law_drawn_placement.nd)
 (bd_one (sd_expr (ed_pd (pd_appLL 3 (pd_rd (rd_cal c__law_draw hr (by decide) rfl (ad_cons (ed_var 0) (ad_cons (ed_pd (pd_ed (ed_var 1))) ad_nil)) (many_cons (many_cons many_nil)))) (fun _ => (pd_ed (ed_var 4))))))))
 (bd_one (sd_ret (zb_tuple rfl M.f_tuple (ad_cons (ed_pd (pd_rd (rd_lc (own := [("line", 6)]) (T := [6]) rfl sc__law_drawn_placement.nd (by decide) (id_seq (ed_pd (pd_frzLL 3))) (blkOk_by (N := N__law_drawn_placement) (sc := defScope s__law_drawn_placement) (by decide +kernel)) (fun _ _ _ _ _ _ => (gd_name 6 sc__law_drawn_placement.nd)) (fun _ _ _ _ _ _ => tsd_nil) (fun _ _ _ _ _ _ => (pd_rd (zb_tuple rfl M.f_tuple (ad_cons (ed_var 6) ad_nil))))))) ad_nil)))))))
/-! _law_pins: 0 mapped, 1 placement, 2 blocks, 3 places, 4 found, 5 row, 6 column, 7 block, 8 signal, 9 drives -/
abbrev s__law_pins : Stmt := top 16
abbrev N__law_pins : List Str := ["mapped", "placement", "blocks", "places", "found", "row", "column", "block", "signal", "drives"]
theorem sc__law_pins : FnScope ["mapped", "placement", "blocks", "places", "found", "row", "column", "block", "signal", "drives"] ["mapped", "placement"] (defScope s__law_pins) := ⟨rfl, rfl, rfl, by decide +kernel, rfl, by decide +kernel, by decide +kernel⟩
noncomputable def L1__law_pins : Os := (oSeq (oDrop (oPu (oMutK 4 fAppend (oCons (oTup (oCons (oKeep (oVar 8)) (oCons (oKeep (oVar 9)) (oCons (oKeep (oVar 5)) (oCons (oKeep (oVar 6)) oNil))))) oNil))))
 (oAug 6 (fInt2 fun i j => i + j) (oPu (oC (.int 1)))))
noncomputable def L2__law_pins : Os := (oSeq (oStL 3 (oTup (oCons (oKeep (oVar 5)) (oCons (oKeep (oVar 6)) oNil))) (oKeep (oVar 7)))
 (oFor (oItm (oPu (oFrz (oBin fIx (oVar 2) (oVar 7))))) (gTp 2 (gCn (gNm 8) (gCn (gNm 9) gNl)))
 L1__law_pins))
noncomputable def L3__law_pins : Os := (oSeq (oSet 6 (oRes (oC (.int 0))))
 (oFor (oItm (oPu (oFrz (oBin fIx (oVar 1) (oVar 5))))) (gNm 7)
 L2__law_pins))
noncomputable def b__law_pins : Os := (oSeq (oSet 2 (oCall g__law_blocks (oCons (oPu (oKeep (oVar 0))) oNil)))
 (oSeq (oSet 3 (oBin fMulY (oPu (oFrz (oLst (oCons (oC .none) oNil)))) (oPu (oFrz (oLen (oVar 2))))))
 (oSeq (oSet 4 (oLst oNil))
 (oSeq (oFor (oRange (oCons (oFrz (oLen (oVar 1))) oNil)) (gNm 5)
 L3__law_pins)
 (oRet (oRes (oTup (oCons (oKeep (oVar 4)) (oCons (oKeep (oVar 3)) oNil)))))))))
noncomputable def g__law_pins : Fn := fnOf 10 b__law_pins
theorem ok__law_pins {P : Program} {w : World} {K : PySem.W.Frag} {mg : Str → Option Value} {base : Heap} {f : Addr} {fd : FuncData} (M : Mg K mg) (F : FnP K "_law_pins" s__law_pins f fd) (c__law_blocks : Cal P w K mg base 1 "_law_blocks" ["mapped"] g__law_blocks) : FnOk P w K mg base CX0 2 f fd ["mapped", "placement"] (spD K 2 g__law_pins) :=
  fn_ok F sc__law_pins (by decide) (fun cdv A outer s H E hr G =>
  (bd_cons (sd_set 2 (rd_cal c__law_blocks hr (by decide) rfl (ad_cons (ed_pd (pd_ed (ed_var 0))) ad_nil) (many_cons many_nil)) sc__law_pins.nd)
 (bd_cons (sd_set 3 (rd_mulY (ed_pd (pd_rd (rd_lst (qd_cons pd_none qd_nil)))) (ed_pd (pd_rd (rd_len rfl M.f_len (ed_var 2))))) sc__law_pins.nd)
 (bd_cons (sd_set 4 (rd_lst qd_nil) sc__law_pins.nd)
 (bd_cons (sd_for PassesOwn.never rfl (id_range1 rfl M.f_range (qd_cons (pd_rd (rd_len rfl M.f_len (ed_var 1))) qd_nil)) (gd_name 5 sc__law_pins.nd)
 (bd_cons (sd_set 6 (rd_pd pd_int) sc__law_pins.nd)
 (bd_one (sd_for PassesOwn.never rfl (id_seq (ed_pd (pd_rd (rd_ix (ed_var 1) (ed_var 5))))) (gd_name 7 sc__law_pins.nd)
 (bd_cons (sd_stL 3 (pd_tup (qd_cons (pd_ed (ed_var 5)) (qd_cons (pd_ed (ed_var 6)) qd_nil))) (pd_ed (ed_var 7)))
 (bd_one (sd_for PassesOwn.never rfl (id_seq (ed_pd (pd_rd (rd_ix (ed_var 2) (ed_var 7))))) (gd_tup rfl (gds_cons (gd_name 8 sc__law_pins.nd) (gds_cons (gd_name 9 sc__law_pins.nd) gds_nil)))
 (bd_cons (sd_expr (ed_pd (zl_append 4 (qd_cons (pd_tup (qd_cons (pd_ed (ed_var 8)) (qd_cons (pd_ed (ed_var 9)) (qd_cons (pd_ed (ed_var 5)) (qd_cons (pd_ed (ed_var 6)) qd_nil))))) qd_nil))))
 (bd_one (sd_aug 6 ak_add (ed_pd pd_int) sc__law_pins.nd))))))))))
 (bd_one (sd_ret (rd_pd (pd_tup (qd_cons (pd_ed (ed_var 4)) (qd_cons (pd_ed (ed_var 3)) qd_nil)))))))))))
/-! _law_spans: 0 mapped, 1 placement, 2 pins, 3 places, 4 wired, 5 rows, 6 spine, 7 signal, 8 mine, 9 met, 10 row, 11 line, 12 columns, 13 pin -/
abbrev s__law_spans : Stmt := top 17
abbrev N__law_spans : List Str := ["mapped", "placement", "pins", "places", "wired", "rows", "spine", "signal", "mine", "met", "row", "line", "columns", "pin"]
theorem sc__law_spans : FnScope ["mapped", "placement", "pins", "places", "wired", "rows", "spine", "signal", "mine", "met", "row", "line", "columns", "pin"] ["mapped", "placement"] (defScope s__law_spans) := ⟨rfl, rfl, rfl, by decide +kernel, rfl, by decide +kernel, by decide +kernel⟩
noncomputable def C1__law_spans : O D := (oFrz (oCB fTuple (oCons (oVar 10) oNil)))
noncomputable def C2__law_spans : O D := (oFrz (oBin fIx (oVar 13) (oPu (oC (.int 3)))))
noncomputable def T1__law_spans : O Bool := (oTst (oBin fEq (oPu (oFrz (oBin fIx (oVar 13) (oPu (oC (.int 2)))))) (oVar 10)))
noncomputable def L1__law_spans : Os := (oSeq (oSet 12 (oLc [13] (oItm (oVar 8)) (gNm 13) T1__law_spans C2__law_spans))
 (oDrop (oPu (oAppLL 5 (oKeep (oVar 10)) (oTup (oCons (oKeep (oVar 7)) (oCons (oFrz (oIf (oTst (oBin fGt (oPu (oFrz (oLen (oVar 9)))) (oPu (oC (.int 1))))) (oUn fNeg (oPu (oC (.int 1)))) (oCB fMin1X (oCons (oVar 12) oNil)))) (oCons (oFrz (oCB fMax1X (oCons (oVar 12) oNil))) oNil))))))))
noncomputable def C3__law_spans : O D := (oFrz (oBin fIx (oVar 13) (oPu (oC (.int 2)))))
noncomputable def C4__law_spans : O D := (oKeep (oVar 13))
noncomputable def T2__law_spans : O Bool := (oTst (oBin fEq (oPu (oFrz (oBin fIx (oVar 13) (oPu (oC (.int 0)))))) (oVar 7)))
noncomputable def L2__law_spans : Os := (oSeq (oSet 8 (oLc [13] (oItm (oVar 2)) (gNm 13) T2__law_spans C4__law_spans))
 (oSeq (oSet 9 (oCB fSS (oCons (oPu (oFrz (oLc [13] (oItm (oVar 8)) (gNm 13) oYes C3__law_spans))) oNil)))
 (oSeq (oFor (oItm (oVar 9)) (gNm 10)
 L1__law_spans)
 (oIfS (oTst (oBin fGt (oPu (oFrz (oLen (oVar 9)))) (oPu (oC (.int 1)))))
 (oDrop (oPu (oMutK 6 fAppend (oCons (oTup (oCons (oKeep (oVar 7)) (oCons (oFrz (oBin fIx (oVar 9) (oPu (oC (.int 0))))) (oCons (oFrz (oBin fIx (oVar 9) (oPu (oFrz (oUn fNeg (oPu (oC (.int 1)))))))) oNil)))) oNil))))
 oNext))))
noncomputable def C5__law_spans : O Rs := (oLst oNil)
noncomputable def C6__law_spans : O D := (oFrz (oBin fIx (oVar 13) (oPu (oC (.int 0)))))
noncomputable def T3__law_spans : O Bool := (oTst (oBin fEq (oPu (oFrz (oBin fIx (oVar 13) (oPu (oC (.int 1)))))) (oPu (oC (.int 0)))))
noncomputable def b__law_spans : Os := (oSeq (oAsg (oFrz (oCall g__law_pins (oCons (oPu (oKeep (oVar 0))) (oCons (oPu (oKeep (oVar 1))) oNil)))) (gTp 2 (gCn (gNm 2) (gCn (gNm 3) gNl))))
 (oSeq (oSet 4 (oCB fSS (oCons (oPu (oFrz (oLc [13] (oItm (oVar 2)) (gNm 13) T3__law_spans C6__law_spans))) oNil)))
 (oSeq (oMkLL 5 [11] (oItm (oVar 1)) (gNm 11) C5__law_spans)
 (oSeq (oSet 6 (oLst oNil))
 (oSeq (oFor (oItm (oVar 4)) (gNm 7)
 L2__law_spans)
 (oRet (oRes (oTup (oCons (oFrz (oCB fTuple (oCons (oPu (oFrz (oLc [10] (oItm (oPu (oFrzLL 5))) (gNm 10) oYes C1__law_spans))) oNil))) (oCons (oFrz (oCB fTuple (oCons (oVar 6) oNil))) oNil))))))))))
noncomputable def g__law_spans : Fn := fnOf 14 b__law_spans
theorem ok__law_spans {P : Program} {w : World} {K : PySem.W.Frag} {mg : Str → Option Value} {base : Heap} {f : Addr} {fd : FuncData} (M : Mg K mg) (F : FnP K "_law_spans" s__law_spans f fd) (c__law_pins : Cal P w K mg base 2 "_law_pins" ["mapped", "placement"] g__law_pins) : FnOk P w K mg base CX0 3 f fd ["mapped", "placement"] (spD K 2 g__law_spans) :=
  fn_ok F sc__law_spans (by decide) (fun cdv A outer s H E hr G =>
  (bd_cons (sd_asg (pd_rd (rd_cal c__law_pins hr (by decide) rfl (ad_cons (ed_pd (pd_ed (ed_var 0))) (ad_cons (ed_pd (pd_ed (ed_var 1))) ad_nil)) (many_cons (many_cons many_nil)))) (gd_tup rfl (gds_cons (gd_name 2 sc__law_spans.nd) (gds_cons (gd_name 3 sc__law_spans.nd) gds_nil))))
 (bd_cons (sd_set 4 (zb_sset rfl rfl M.f_sorted rfl M.f_set (ad_cons (ed_pd (pd_rd (rd_lc (own := [("pin", 13)]) (T := [13]) rfl sc__law_spans.nd (by decide) (id_seq (ed_var 2)) (blkOk_by (N := N__law_spans) (sc := defScope s__law_spans) (by decide +kernel)) (fun _ _ _ _ _ _ => (gd_name 13 sc__law_spans.nd)) (fun _ _ _ _ _ _ => (tsd_one (td_ck (ck_eq hr) (ed_pd (pd_rd (rd_ix (ed_var 13) (ed_pd pd_int)))) (ed_pd pd_int)))) (fun _ _ _ _ _ _ => (pd_rd (rd_ix (ed_var 13) (ed_pd pd_int))))))) ad_nil)) sc__law_spans.nd)
 (bd_cons (sd_mkLLc 5 (own := [("line", 11)]) (T := [11]) rfl sc__law_spans.nd (by decide) rfl rfl (sw_true rfl rfl rfl (by decide +kernel)) (id_seq (ed_var 1)) (blkOk_by (N := N__law_spans) (sc := defScope s__law_spans) (by decide +kernel)) (fun _ _ _ _ _ _ => (gd_name 11 sc__law_spans.nd)) (fun _ _ _ _ _ _ => (rd_lst qd_nil)))
 (bd_cons (sd_set 6 (rd_lst qd_nil) sc__law_spans.nd)
 (bd_cons (sd_for PassesOwn.never rfl (id_seq (ed_var 4)) (gd_name 7 sc__law_spans.nd)
 (bd_cons (sd_setLc 8 (own := [("pin", 13)]) (T := [13]) rfl sc__law_spans.nd (by decide) rfl rfl (sw_true rfl rfl rfl (by decide +kernel)) (id_seq (ed_var 2)) (blkOk_by (N := N__law_spans) (sc := defScope s__law_spans) (by decide +kernel)) (fun _ _ _ _ _ _ => (gd_name 13 sc__law_spans.nd)) (fun _ _ _ _ _ _ => (tsd_one (td_ck (ck_eq hr) (ed_pd (pd_rd (rd_ix (ed_var 13) (ed_pd pd_int)))) (ed_var 7)))) (fun _ _ _ _ _ _ => (pd_ed (ed_var 13))))
 (bd_cons (sd_set 9 (zb_sset rfl rfl M.f_sorted rfl M.f_set (ad_cons (ed_pd (pd_rd (rd_lc (own := [("pin", 13)]) (T := [13]) rfl sc__law_spans.nd (by decide) (id_seq (ed_var 8)) (blkOk_by (N := N__law_spans) (sc := defScope s__law_spans) (by decide +kernel)) (fun _ _ _ _ _ _ => (gd_name 13 sc__law_spans.nd)) (fun _ _ _ _ _ _ => tsd_nil) (fun _ _ _ _ _ _ => (pd_rd (rd_ix (ed_var 13) (ed_pd pd_int))))))) ad_nil)) sc__law_spans.nd)
 (bd_cons (sd_for PassesOwn.never rfl (id_seq (ed_var 9)) (gd_name 10 sc__law_spans.nd)
 (bd_cons (sd_setLc 12 (own := [("pin", 13)]) (T := [13]) rfl sc__law_spans.nd (by decide) rfl rfl (sw_true rfl rfl rfl (by decide +kernel)) (id_seq (ed_var 8)) (blkOk_by (N := N__law_spans) (sc := defScope s__law_spans) (by decide +kernel)) (fun _ _ _ _ _ _ => (gd_name 13 sc__law_spans.nd)) (fun _ _ _ _ _ _ => (tsd_one (td_ck (ck_eq hr) (ed_pd (pd_rd (rd_ix (ed_var 13) (ed_pd pd_int)))) (ed_var 10)))) (fun _ _ _ _ _ _ => (pd_rd (rd_ix (ed_var 13) (ed_pd pd_int)))))
 (bd_one (sd_expr (ed_pd (pd_appLL 5 (pd_ed (ed_var 10)) (fun _ => (pd_tup (qd_cons (pd_ed (ed_var 7)) (qd_cons (pd_rd (rd_if (td_ck ck_gt (ed_pd (pd_rd (rd_len rfl M.f_len (ed_var 9)))) (ed_pd pd_int)) (rd_neg (ed_pd pd_int)) (zb_min1X hr rfl rfl M.f_min (ad_cons (ed_var 12) ad_nil)))) (qd_cons (pd_rd (zb_max1X hr rfl rfl M.f_max (ad_cons (ed_var 12) ad_nil))) qd_nil)))))))))))
 (bd_one (sd_if (td_ck ck_gt (ed_pd (pd_rd (rd_len rfl M.f_len (ed_var 9)))) (ed_pd pd_int))
 (bd_one (sd_expr (ed_pd (zl_append 6 (qd_cons (pd_tup (qd_cons (pd_ed (ed_var 7)) (qd_cons (pd_rd (rd_ix (ed_var 9) (ed_pd pd_int))) (qd_cons (pd_rd (rd_ix (ed_var 9) (ed_pd (pd_rd (rd_neg (ed_pd pd_int)))))) qd_nil)))) qd_nil)))))
 bd_nil))))))
 (bd_one (sd_ret (rd_pd (pd_tup (qd_cons (pd_rd (zb_tuple rfl M.f_tuple (ad_cons (ed_pd (pd_rd (rd_lc (own := [("row", 10)]) (T := [10]) rfl sc__law_spans.nd (by decide) (id_seq (ed_pd (pd_frzLL 5))) (blkOk_by (N := N__law_spans) (sc := defScope s__law_spans) (by decide +kernel)) (fun _ _ _ _ _ _ => (gd_name 10 sc__law_spans.nd)) (fun _ _ _ _ _ _ => tsd_nil) (fun _ _ _ _ _ _ => (pd_rd (zb_tuple rfl M.f_tuple (ad_cons (ed_var 10) ad_nil))))))) ad_nil))) (qd_cons (pd_rd (zb_tuple rfl M.f_tuple (ad_cons (ed_var 6) ad_nil))) qd_nil))))))))))))
/-! law: 0 script, 1 d, 2 library, 3 many, 4 mapped, 5 due, 6 k, 7 placement, 8 block -/
abbrev s_law : Stmt := top 18
abbrev N_law : List Str := ["script", "d", "library", "many", "mapped", "due", "k", "placement", "block"]
theorem sc_law : FnScope ["script", "d", "library", "many", "mapped", "due", "k", "placement", "block"] ["script"] (defScope s_law) := ⟨rfl, rfl, rfl, by decide +kernel, rfl, by decide +kernel, by decide +kernel⟩
noncomputable def L1_law : Os := (oSeq (oSet 7 (oCall g__law_drawn_placement (oCons (oVar 1) (oCons (oPu (oFrz (oBin fAdd (oPu (oC (.int 1))) (oPu (oFrz (oCall g__law_draw (oCons (oVar 1) (oCons (oPu (oC (.int 5))) oNil)))))))) (oCons (oPu (oKeep (oVar 4))) oNil)))))
 (oIfS (oTst (oBin fNe (oPu (oFrz (oCall g_spans_of (oCons (oPu (oKeep (oVar 4))) (oCons (oPu (oKeep (oVar 7))) oNil))))) (oPu (oFrz (oCall g__law_spans (oCons (oPu (oKeep (oVar 4))) (oCons (oPu (oKeep (oVar 7))) oNil)))))))
 (oRet (oRes (oC (.bool false))))
 oNext))
noncomputable def C1_law : O D := (oFrz (oCB fTuple (oCons (oVar 8) oNil)))
noncomputable def b_law : Os := (oSeq (oSet 1 (oCall g__law_begin (oCons (oPu (oKeep (oVar 0))) oNil)))
 (oSeq (oSet 2 (oCall g__law_library (oCons (oVar 1) (oCons (oPu (oFrz (oCall g__law_draw (oCons (oVar 1) (oCons (oPu (oC (.int 6))) oNil))))) oNil))))
 (oSeq (oSet 3 (oRes (oKeep (oIf (oTst (oCall g__law_rare (oCons (oVar 1) (oCons (oPu (oC (.int 30))) oNil)))) (oPu (oC (.int 31))) (oPu (oC (.int 11)))))))
 (oSeq (oSet 4 (oCall g__law_drawn_mapped (oCons (oVar 1) (oCons (oPu (oFrz (oCall g__law_draw (oCons (oVar 1) (oCons (oPu (oC (.int 6))) oNil))))) (oCons (oPu (oFrz (oCall g__law_draw (oCons (oVar 1) (oCons (oPu (oC (.int 6))) oNil))))) (oCons (oPu (oFrz (oCall g__law_draw (oCons (oVar 1) (oCons (oPu (oKeep (oVar 3))) oNil))))) (oCons (oPu (oFrz (oCall g__law_draw (oCons (oVar 1) (oCons (oPu (oC (.int 7))) oNil))))) (oCons (oPu (oKeep (oVar 2))) oNil))))))))
 (oSeq (oSet 5 (oCB fTuple (oCons (oPu (oFrz (oLc [8] (oItm (oPu (oFrz (oCall g__law_blocks (oCons (oPu (oKeep (oVar 4))) oNil))))) (gNm 8) oYes C1_law))) oNil)))
 (oSeq (oIfS (oTst (oBin fNe (oPu (oFrz (oCall g_blocks_of (oCons (oPu (oKeep (oVar 4))) oNil)))) (oVar 5)))
 (oRet (oRes (oC (.bool false))))
 oNext)
 (oSeq (oFor (oRange (oCons (oC (.int 3)) oNil)) (gNm 6)
 L1_law)
 (oRet (oBin fEq (oPu (oFrz (oCall g_blocks_of (oCons (oPu (oKeep (oVar 4))) oNil)))) (oVar 5))))))))))
noncomputable def g_law : Fn := fnOf 9 b_law
theorem ok_law {P : Program} {w : World} {K : PySem.W.Frag} {mg : Str → Option Value} {base : Heap} {f : Addr} {fd : FuncData} (M : Mg K mg) (F : FnP K "law" s_law f fd) (c__law_begin : Cal P w K mg base 1 "_law_begin" ["script"] g__law_begin) (c__law_blocks : Cal P w K mg base 1 "_law_blocks" ["mapped"] g__law_blocks) (c__law_draw : Cal P w K mg base 1 "_law_draw" ["d", "many"] g__law_draw) (c__law_drawn_mapped : Cal P w K mg base 3 "_law_drawn_mapped" ["d", "inputs", "regs", "cells", "outs", "library"] g__law_drawn_mapped) (c__law_drawn_placement : Cal P w K mg base 3 "_law_drawn_placement" ["d", "rows", "mapped"] g__law_drawn_placement) (c__law_library : Cal P w K mg base 3 "_law_library" ["d", "extra"] g__law_library) (c__law_rare : Cal P w K mg base 2 "_law_rare" ["d", "many"] g__law_rare) (c__law_spans : Cal P w K mg base 3 "_law_spans" ["mapped", "placement"] g__law_spans) (c_blocks_of : Cal P w K mg base 1 "blocks_of" ["mapped"] g_blocks_of) (c_spans_of : Cal P w K mg base 4 "spans_of" ["mapped", "placement"] g_spans_of) : FnOk P w K mg base CX0 5 f fd ["script"] (spD K 1 g_law) :=
  fn_ok F sc_law (by decide) (fun cdv A outer s H E hr G =>
  (bd_cons (sd_set 1 (rd_cal c__law_begin hr (by decide) rfl (ad_cons (ed_pd (pd_ed (ed_var 0))) ad_nil) (many_cons many_nil)) sc_law.nd)
 (bd_cons (sd_set 2 (rd_cal c__law_library hr (by decide) rfl (ad_cons (ed_var 1) (ad_cons (ed_pd (pd_rd (rd_cal c__law_draw hr (by decide) rfl (ad_cons (ed_var 1) (ad_cons (ed_pd pd_int) ad_nil)) (many_cons (many_cons many_nil))))) ad_nil)) (many_cons (many_cons many_nil))) sc_law.nd)
 (bd_cons (sd_set 3 (rd_pd (pd_ed (ed_if (td_rd (rd_cal c__law_rare hr (by decide) rfl (ad_cons (ed_var 1) (ad_cons (ed_pd pd_int) ad_nil)) (many_cons (many_cons many_nil)))) (ed_pd pd_int) (ed_pd pd_int)))) sc_law.nd)
 (bd_cons (sd_set 4 (rd_cal c__law_drawn_mapped hr (by decide) rfl (ad_cons (ed_var 1) (ad_cons (ed_pd (pd_rd (rd_cal c__law_draw hr (by decide) rfl (ad_cons (ed_var 1) (ad_cons (ed_pd pd_int) ad_nil)) (many_cons (many_cons many_nil))))) (ad_cons (ed_pd (pd_rd (rd_cal c__law_draw hr (by decide) rfl (ad_cons (ed_var 1) (ad_cons (ed_pd pd_int) ad_nil)) (many_cons (many_cons many_nil))))) (ad_cons (ed_pd (pd_rd (rd_cal c__law_draw hr (by decide) rfl (ad_cons (ed_var 1) (ad_cons (ed_pd (pd_ed (ed_var 3))) ad_nil)) (many_cons (many_cons many_nil))))) (ad_cons (ed_pd (pd_rd (rd_cal c__law_draw hr (by decide) rfl (ad_cons (ed_var 1) (ad_cons (ed_pd pd_int) ad_nil)) (many_cons (many_cons many_nil))))) (ad_cons (ed_pd (pd_ed (ed_var 2))) ad_nil)))))) (many_cons (many_cons (many_cons (many_cons (many_cons (many_cons many_nil))))))) sc_law.nd)
 (bd_cons (sd_set 5 (zb_tuple rfl M.f_tuple (ad_cons (ed_pd (pd_rd (rd_lc (own := [("block", 8)]) (T := [8]) rfl sc_law.nd (by decide) (id_seq (ed_pd (pd_rd (rd_cal c__law_blocks hr (by decide) rfl (ad_cons (ed_pd (pd_ed (ed_var 4))) ad_nil) (many_cons many_nil))))) (blkOk_by (N := N_law) (sc := defScope s_law) (by decide +kernel)) (fun _ _ _ _ _ _ => (gd_name 8 sc_law.nd)) (fun _ _ _ _ _ _ => tsd_nil) (fun _ _ _ _ _ _ => (pd_rd (zb_tuple rfl M.f_tuple (ad_cons (ed_var 8) ad_nil))))))) ad_nil)) sc_law.nd)
 (bd_cons (sd_if (td_ck (ck_ne hr) (ed_pd (pd_rd (rd_cal c_blocks_of hr (by decide) rfl (ad_cons (ed_pd (pd_ed (ed_var 4))) ad_nil) (many_cons many_nil)))) (ed_var 5))
 (bd_one (sd_ret (rd_pd pd_bool)))
 bd_nil)
 (bd_cons (sd_for PassesOwn.never rfl (id_range1 rfl M.f_range (qd_cons pd_int qd_nil)) (gd_name 6 sc_law.nd)
 (bd_cons (sd_set 7 (rd_cal c__law_drawn_placement hr (by decide) rfl (ad_cons (ed_var 1) (ad_cons (ed_pd (pd_rd (rd_add (ed_pd pd_int) (ed_pd (pd_rd (rd_cal c__law_draw hr (by decide) rfl (ad_cons (ed_var 1) (ad_cons (ed_pd pd_int) ad_nil)) (many_cons (many_cons many_nil)))))))) (ad_cons (ed_pd (pd_ed (ed_var 4))) ad_nil))) (many_cons (many_cons (many_cons many_nil)))) sc_law.nd)
 (bd_one (sd_if (td_ck (ck_ne hr) (ed_pd (pd_rd (rd_cal c_spans_of hr (by decide) rfl (ad_cons (ed_pd (pd_ed (ed_var 4))) (ad_cons (ed_pd (pd_ed (ed_var 7))) ad_nil)) (many_cons (many_cons many_nil))))) (ed_pd (pd_rd (rd_cal c__law_spans hr (by decide) rfl (ad_cons (ed_pd (pd_ed (ed_var 4))) (ad_cons (ed_pd (pd_ed (ed_var 7))) ad_nil)) (many_cons (many_cons many_nil))))))
 (bd_one (sd_ret (rd_pd pd_bool)))
 bd_nil))))
 (bd_one (sd_ret (rd_ck (ck_eq hr) (ed_pd (pd_rd (rd_cal c_blocks_of hr (by decide) rfl (ad_cons (ed_pd (pd_ed (ed_var 4))) ad_nil) (many_cons many_nil)))) (ed_var 5))))))))))))
end K36
namespace K36
open PySem Ow L2
abbrev dS (cs : List Int) (a b c e : Int) : Ct := .li [.list (cs.map .int), .int a, .int b, .int c, .int e]
theorem draw_st (cs : List Int) (a b c e m : Int) (ha : 0 ≤ a) (hm : 0 < m) (hm2 : m < 2 ^ 64) : ∃ r a' b' c', 
    g__law_draw [.ow true (dS cs a b c e), .pu (.int m)] = .ret (.pu (.int r)) [.ow true (dS cs a' b' c' e), .pu (.int m)] ∧ 0 ≤ a' ∧ 0 ≤ r ∧ r < m := by
  have hd : ∀ b, divOk b m = true := fun b => divOk_of hm hm2
  have hd2 : ∀ b, divOk b 2 = true := fun b => divOk_of (by decide) (by decide)
  have hd3 : ∀ b, divOk b 16 = true := fun b => divOk_of (by decide) (by decide)
  have hm1 : ∀ b, mulOk 2 b = true := fun b => mulOk_l (by decide) (by decide)
  have hm2' : ∀ b, mulOk b 48271 = true := fun b => mulOk_r (by decide) (by decide)
  have hm3 : ∀ b, mulOk b 16807 = true := fun b => mulOk_r (by decide) (by decide)
  have hm4 : ∀ b, mulOk b 69621 = true := fun b => mulOk_r (by decide) (by decide)
  have h6 : 0 < (2 : Int) ^ 6000 := Int.pow_pos (by decide)
  have hr : ∀ x : Int, 0 ≤ x % m ∧ x % m < m := fun x => ⟨Int.emod_nonneg _ (by omega), Int.emod_lt_of_pos _ hm⟩
  by_cases hb : 0 < b
  · refine ⟨b % m, a, b / m, c, ?_, ha, hr _⟩
    simp [g__law_draw, fnOf_eq, b__law_draw, ap_var, ap_retV, setSl_eq, stL, L2.ixN, hb, hd, hm]
  · by_cases hl : a < cs.length
    · have hlt : a.toNat < cs.length := by omega
      have hv := List.getElem?_eq_getElem hlt
      generalize hv2 : cs[a.toNat]'hlt = v at hv
      generalize hsz : 2 * (if v < 0 then -v else v) + (if v < 0 then 1 else 0) = sz
      by_cases hs : 2000000000000000000 ≤ sz
      · refine ⟨sz / 2 % 2 ^ 6000 % m, a + 1, sz / 2 % 2 ^ 6000 / m, c, ?_, by omega, hr _⟩
        simp [g__law_draw, fnOf_eq, b__law_draw, ap_var, ap_retV, setSl_eq, stL, L2.ixN, hb, hd, hm, hl, atI_nn ha, hd2, hd3, hm1, hm2', hm3, hm4, hv, hv2, hs, ha, h6, hsz]
      · refine ⟨(c * 48271 + sz % 2147483629 * 16807 + (a + 1) * 69621 + 11) % 2147483647 / 16 % m, a + 1, b, (c * 48271 + sz % 2147483629 * 16807 + (a + 1) * 69621 + 11) % 2147483647, ?_, by omega, hr _⟩
        simp [g__law_draw, fnOf_eq, b__law_draw, ap_var, ap_retV, setSl_eq, stL, L2.ixN, hb, hd, hm, hl, atI_nn ha, hd2, hd3, hm1, hm2', hm3, hm4, hv, hv2, hs, ha, hsz]
    · refine ⟨(c * 48271 + 0 % 2147483629 * 16807 + (a + 1) * 69621 + 11) % 2147483647 / 16 % m, a + 1, b, (c * 48271 + 0 % 2147483629 * 16807 + (a + 1) * 69621 + 11) % 2147483647, ?_, by omega, hr _⟩
      simp [g__law_draw, fnOf_eq, b__law_draw, ap_var, ap_retV, setSl_eq, stL, L2.ixN, hb, hd, hm, hl, atI_nn ha, hd2, hd3, hm1, hm2', hm3, hm4, ha]
def DOK (ds : List D) : Prop := ∃ (cs : List Int) (a b c e : Int), ds = [.list (cs.map .int), .int a, .int b, .int c, .int e] ∧ 0 ≤ a
theorem draw {ds : List D} (h : DOK ds) {m : Int} (hm : 0 < m) (hm2 : m < 2 ^ 64) : ∃ r ds', DOK ds' ∧ 0 ≤ r ∧ r < m ∧ g__law_draw [.ow true (.li ds), .pu (.int m)] = .ret (.pu (.int r)) [.ow true (.li ds'), .pu (.int m)] := by
  obtain ⟨cs, a, b, c, e, rfl, ha⟩ := h
  obtain ⟨r, a', b', c', h1, h2, h3, h4⟩ := draw_st cs a b c e m ha hm hm2
  exact ⟨r, _, ⟨cs, a', b', c', e, rfl, h2⟩, h3, h4, h1⟩
theorem begin_ok (ns : List Int) (hl : ns.length ≤ 63) : ∃ ds, DOK ds ∧ g__law_begin [.pu (scr (ns.map .int))] = .ret (.nw (.li ds)) [.pu (scr (ns.map .int))] := by
  refine ⟨_, ⟨ns, 0, 0, 7, 3, rfl, Int.le_refl _⟩, ?_⟩
  have h : lcL [1] (gNm 1) oYes C1__law_begin (ns.map PyData.int) [.pu (scr (ns.map .int)), .no] = .ok (ns.map PyData.int) [.pu (scr (ns.map .int)), .no] :=
    lcL_map fun i _ => ⟨[.pu (scr (ns.map .int)), .pu (.int i)], [.pu (scr (ns.map .int)), .pu (.int i)], rfl, by simp [C1__law_begin, ap_var], rfl⟩
  have hk : ns.length ≤ 16000000 := by omega
  simp [g__law_begin, fnOf_eq, b__law_begin, ap_var, lc1_eq, okW, loose, wipeR, restR, lcE, h, hk, scr]
theorem eqInt (i j : Int) : fEq (.int i) (.int j) = some (.pu (.bool (decide (i = j)))) := by
  unfold fEq
  rw [if_pos ⟨rfl, rfl⟩]
  simp [PyData.eqv, Bool.beq_eq_decide_eq]
theorem rare {ds : List D} (h : DOK ds) {m : Int} (hm : 0 < m) (hm2 : m < 2 ^ 64) : ∃ b ds', DOK ds' ∧ g__law_rare [.ow true (.li ds), .pu (.int m)] = .ret (.pu (.bool b)) [.ow true (.li ds'), .pu (.int m)] := by
  obtain ⟨r, ds', hd, hr, hr2, e⟩ := draw h hm hm2
  have h2 : divOk m 2 = true := divOk_of (by decide) (by decide)
  refine ⟨decide (r = m / 2), ds', hd, ?_⟩
  simp [g__law_rare, fnOf_eq, b__law_rare, ap_var, e, h2, eqInt]

theorem shuffled {ds : List D} (h : DOK ds) {xs : List D} (hl : xs.length ≤ 1000000) : ∃ ys ds', DOK ds' ∧ ys.Perm xs ∧ g__law_shuffled [.ow true (.li ds), .pu (.list xs)] = .ret (.nw (.li ys)) [.ow true (.li ds'), .pu (.list xs)] := by
  obtain ⟨ρ', e, ds', left, found, k4, rfl, hd', hn, hp, _⟩ := forL_inv (g := gNm 4) (b := L1__law_shuffled)
    (fun l ρ => ∃ ds left found k4, ρ = [.ow true (.li ds), .pu (.list xs), .ow false (.li left), .ow false (.li found), k4] ∧ DOK ds ∧ left.length = l.length ∧ (found ++ left).Perm xs ∧ okS (some k4) = true)
    (ds := rangeD 0 xs.length) (ρ := [.ow true (.li ds), .pu (.list xs), .ow false (.li xs), .ow false (.li []), .no]) (by
      rintro d l ρ _ ⟨ds, left, found, k4, rfl, hd, hn, hp, q4⟩
      rw [List.length_cons] at hn
      have hlen := hp.length_eq
      rw [List.length_append] at hlen
      obtain ⟨r, ds', hd', r0, r1, e⟩ := draw hd (m := left.length) (by omega) (by omega)
      have hr : r.toNat < left.length := by omega
      have hpop : fPopAt (.li left) [.int r] = some (.li (left.eraseIdx r.toNat), left[r.toNat]) := by
        rw [f_popAt, if_pos ⟨r0, by omega⟩, List.getElem?_eq_getElem hr]
        rfl
      have hfl : found.length < 16000000 := by omega
      generalize hx : left[r.toNat] = x at hpop
      refine ⟨[.ow true (.li ds), .pu (.list xs), .ow false (.li left), .ow false (.li found), .pu d], [.ow true (.li ds'), .pu (.list xs), .ow false (.li (left.eraseIdx r.toNat)), .ow false (.li (found ++ [x])), .pu d], by simp [setSl_ok, q4], .inl ?_, ds', _, _, _, rfl, hd', ?_, ?_, rfl⟩
      · have hlen2 : len1 (.rf 2) [.ow true (.li ds), .pu (.list xs), .ow false (.li left), .ow false (.li found), .pu d] = .ok (.pu (.int left.length)) [.ow true (.li ds), .pu (.list xs), .ow false (.li left), .ow false (.li found), .pu d] := rfl
        generalize ((left.length : Nat) : Int) = N at e hlen2
        generalize hE : left.eraseIdx r.toNat = E at hpop ⊢
        simp [-rg1_eq, -f_shl, -ap_range3, -List.map_replicate, ap_var, ap_retV, setSl_ok, fnOf_eq, bin1_eq, lc1_eq, okW, loose, wipeR, restR, lcE, wb1, wb2, wb3, wb4, wb5, wb6, wb7, L1__law_shuffled, hlen2, e, -f_popAt, hpop, hfl]
      · rw [List.length_eraseIdx, if_pos hr]; omega
      · rw [List.append_assoc, ← hx]
        exact (List.Perm.append_left found (erase_perm hr)).trans hp) ⟨ds, xs, [], _, rfl, h, by rw [rangeD_length], .refl _, rfl⟩
  have hl0 : left = [] := List.eq_nil_of_length_eq_zero hn
  subst hl0
  rw [List.append_nil] at hp
  refine ⟨found, ds', hd', hp, ?_⟩
  have hrg := fun ρ => rg1_nat (n := xs.length) (by omega) ρ
  have hlen2 : len1 (.rf 2) [.ow true (.li ds), .pu (.list xs), .ow false (.li xs), .ow false (.li []), .no] = .ok (.pu (.int xs.length)) [.ow true (.li ds), .pu (.list xs), .ow false (.li xs), .ow false (.li []), .no] := rfl
  generalize ((xs.length : Nat) : Int) = N at hrg hlen2
  simp [-rg1_eq, -f_shl, -ap_range3, -List.map_replicate, ap_var, ap_retV, setSl_ok, fnOf_eq, bin1_eq, lc1_eq, okW, loose, wipeR, restR, lcE, wb1, wb2, wb3, wb4, wb5, wb6, wb7, g__law_shuffled, b__law_shuffled, hlen2, hrg, e]
theorem signal {ds : List D} (h : DOK ds) {m : Int} (hm : 0 < m) (hm2 : m < 2 ^ 64) : ∃ r ds', DOK ds' ∧ 0 ≤ r ∧ r < m ∧ g__law_drawn_signal [.ow true (.li ds), .pu (.int m)] = .ret (.pu (.int r)) [.ow true (.li ds'), .pu (.int m)] := by
  obtain ⟨r, ds1, hd1, r0, r1, e1⟩ := draw h hm hm2
  obtain ⟨t, ds2, hd2, t0, t1, e2⟩ := draw hd1 hm hm2
  refine ⟨if t > r then t else r, ds2, hd2, by split <;> omega, by split <;> omega, ?_⟩
  have hm : fMax2 [.int r, .int t] = some (.pu (.int (if t > r then t else r))) := rfl
  simp [-rg1_eq, -f_shl, -ap_range3, -List.map_replicate, ap_var, ap_retV, setSl_ok, fnOf_eq, bin1_eq, lc1_eq, okW, loose, wipeR, restR, lcE, wb1, wb2, wb3, wb4, wb5, wb6, wb7, g__law_drawn_signal, b__law_drawn_signal, e1, e2, hm]
/-! cells: name, table, pins, cost, delay -/
structure Cl where
  nm : Str
  tb : Int
  pins : Int
  co : Int
  de : Int
def clD (c : Cl) : D := .tuple [.str c.nm, .int c.tb, .int c.pins, .int c.co, .int c.de]
def ClOk (c : Cl) : Prop := 0 ≤ c.pins ∧ c.pins ≤ 3 ∧ 0 ≤ c.co ∧ c.co < 10 ∧ 0 ≤ c.de ∧ c.de < 5 ∧ 0 ≤ c.tb ∧ SeqAt.shaped (.str c.nm) = true
def LibOk (cs : List Cl) : Prop := cs.length ≤ 13 ∧ (∀ c ∈ cs, ClOk c) ∧ ∃ c ∈ cs, c.pins = 0
def rwD (p : Int × Int) : D := .tuple [.int p.1, .int p.2]
def RwOk (p : Int × Int) : Prop := 0 ≤ p.1 ∧ 0 ≤ p.2 ∧ p.2 ≤ 3
theorem pins_draw {r : Int} (r0 : 0 ≤ r) (r1 : r < 6) : ∃ p q m : Int, fIx (.list [.int 1, .int 2, .int 2, .int 3, .int 3, .int 0]) (.int r) = some (.pu (.int p)) ∧ 0 ≤ p ∧ p ≤ 3 ∧ fShl (.int 1) (.int p) = some (.pu (.int q)) ∧ fShl (.int 1) (.int q) = some (.pu (.int m)) ∧ 0 < m ∧ m < 2 ^ 64 := by
  have h : r = 0 ∨ r = 1 ∨ r = 2 ∨ r = 3 ∨ r = 4 ∨ r = 5 := by omega
  rcases h with rfl | rfl | rfl | rfl | rfl | rfl
  · exact ⟨1, 2, 4, rfl, by decide, by decide, rfl, rfl, by decide, by decide⟩
  · exact ⟨2, 4, 16, rfl, by decide, by decide, rfl, rfl, by decide, by decide⟩
  · exact ⟨2, 4, 16, rfl, by decide, by decide, rfl, rfl, by decide, by decide⟩
  · exact ⟨3, 8, 256, rfl, by decide, by decide, rfl, rfl, by decide, by decide⟩
  · exact ⟨3, 8, 256, rfl, by decide, by decide, rfl, rfl, by decide, by decide⟩
  · exact ⟨0, 1, 2, rfl, by decide, by decide, rfl, rfl, by decide, by decide⟩
theorem lib_step {ds : List D} (h : DOK ds) {rows : List (Int × Int)} (hl : rows.length ≤ 1000) (hr : ∀ p ∈ rows, RwOk p) {s1 s2 k4 s5 k6 : Sl} (q6 : okS (some k6) = true) : ∃ ds' p, DOK ds' ∧ RwOk p ∧
    L1__law_library [.ow true (.li ds), s1, s2, .ow false (.li (rows.map rwD)), k4, s5, k6] = .nx [.ow true (.li ds'), s1, s2, .ow false (.li ((rows ++ [p]).map rwD)), k4, s5, .pu (.int p.2)] := by
  obtain ⟨r, ds1, hd1, r0, r1, e1⟩ := draw h (m := 6) (by decide) (by decide)
  obtain ⟨p, q, m, h1, p0, p3, h2, h3, m0, m1⟩ := pins_draw r0 r1
  obtain ⟨t, ds2, hd2, t0, t1, e2⟩ := draw hd1 m0 m1
  have hlen : (rows.map rwD).length < 16000000 := by rw [List.length_map]; omega
  refine ⟨ds2, (t, p), hd2, ⟨t0, p0, p3⟩, ?_⟩
  rw [List.map_append]
  generalize rows.map rwD = RW at *
  simp [-rg1_eq, -f_shl, -ap_range3, -List.map_replicate, ap_var, ap_retV, setSl_ok, fnOf_eq, bin1_eq, lc1_eq, okW, loose, wipeR, restR, lcE, wb1, wb2, wb3, wb4, wb5, wb6, wb7, L1__law_library, e1, -ix_l, h1, q6, h2, h3, e2, hlen, rwD]
theorem map_names {ys : List D} {xs : List Str} (h : ys.Perm (xs.map PyData.str)) : ∃ zs : List Str, ys = zs.map PyData.str ∧ zs.length = xs.length ∧ ∀ z ∈ zs, z ∈ xs := by
  obtain ⟨zs, rfl, hm⟩ := ex_map (f := PyData.str) (Q := fun z => z ∈ xs) (ys := ys) fun y hy => by
    obtain ⟨x, hx, rfl⟩ := List.mem_map.mp (h.mem_iff.mp hy)
    exact ⟨x, rfl, hx⟩
  refine ⟨zs, rfl, ?_, hm⟩
  have := h.length_eq
  rw [List.length_map, List.length_map] at this
  exact this
theorem library {ds : List D} (h : DOK ds) {e : Nat} (he : e ≤ 9) : ∃ ds' cs, DOK ds' ∧ LibOk cs ∧ g__law_library [.ow true (.li ds), .pu (.int e)] = .ret (.pu (.tuple (cs.map clD))) [.ow true (.li ds'), .pu (.int e)] := by
  obtain ⟨ys, ds1, hd1, hp1, e1⟩ := shuffled h (xs := (["x1", "inv", "nd2", "tie0", "tie1", "ao", "big", "mux2", "buf", "z", "nor", "maj3", "q9"] : List Str).map PyData.str) (by decide)
  obtain ⟨ns, rfl, hns, hnm⟩ := map_names hp1
  have hshape : ∀ z ∈ ns, SeqAt.shaped (.str z) = true := fun z hz => by
    have h1 := hnm z hz
    have h2 : ∀ z ∈ (["x1", "inv", "nd2", "tie0", "tie1", "ao", "big", "mux2", "buf", "z", "nor", "maj3", "q9"] : List Str), SeqAt.shaped (.str z) = true := by decide +kernel
    exact h2 z h1
  obtain ⟨ρ', e2, ds2, rows, k4, k6, rfl, hd2, hr2, hl2, hz2, q4, q6⟩ := forL_inv (g := gNm 4) (b := L1__law_library)
    (fun l ρ => ∃ ds rows k4 k6, ρ = [.ow true (.li ds), .pu (.int e), .ow false (.li (ns.map PyData.str)), .ow false (.li (rows.map rwD)), k4, .no, k6] ∧ DOK ds ∧ (∀ p ∈ rows, RwOk p) ∧ rows.length + l.length = 4 + e ∧ (0, 0) ∈ rows ∧ loose (some k4) = true ∧ okS (some k6) = true)
    (ds := rangeD 0 e) (ρ := [.ow true (.li ds1), .pu (.int e), .ow false (.li (ns.map PyData.str)), .ow false (.li [.tuple [.int 0, .int 0], .tuple [.int 1, .int 0], .tuple [.int 1, .int 1], .tuple [.int 7, .int 2]]), .no, .no, .no]) (by
      rintro d l ρ _ ⟨ds, rows, k4, k6, rfl, hd, hr, hl, hz, q4, q6⟩
      rw [List.length_cons] at hl
      obtain ⟨ds', p, hd', hp, e'⟩ := lib_step hd (rows := rows) (by omega) hr (s1 := .pu (.int e)) (s2 := .ow false (.li (ns.map PyData.str))) (k4 := .pu d) (s5 := .no) q6
      have q4' : okS (some k4) = true := by cases k4 with | ow p c => cases q4 | _ => rfl
      refine ⟨[.ow true (.li ds), .pu (.int e), .ow false (.li (ns.map PyData.str)), .ow false (.li (rows.map rwD)), .pu d, .no, k6], _, by simp [setSl_ok, q4'], .inl e', ds', rows ++ [p], _, _, rfl, hd', ?_, by rw [List.length_append]; simp; omega, List.mem_append_left _ hz, rfl, rfl⟩
      intro x hx
      rcases List.mem_append.mp hx with hx | hx
      · exact hr x hx
      · rw [List.mem_singleton.mp hx]; exact hp) ⟨ds1, [(0, 0), (1, 0), (1, 1), (7, 2)], _, _, rfl, hd1, by intro p hp; simp at hp; rcases hp with rfl | rfl | rfl | rfl <;> exact ⟨by decide, by decide, by decide⟩, by rw [rangeD_length]; rfl, by simp, rfl, rfl⟩
  rw [List.length_nil, Nat.add_zero] at hl2
  obtain ⟨ys3, ds3, hd3, hp3, e3⟩ := shuffled hd2 (xs := rows.map rwD) (by rw [List.length_map]; omega)
  obtain ⟨rs, rfl, hrs⟩ := ex_map (f := rwD) (Q := fun p => p ∈ rows) (ys := ys3) fun y hy => by
    obtain ⟨x, hx, rfl⟩ := List.mem_map.mp (hp3.mem_iff.mp hy)
    exact ⟨x, rfl, hx⟩
  have hrl : rs.length = 4 + e := by
    have := hp3.length_eq
    rw [List.length_map, List.length_map] at this
    omega
  have hz3 : (0, 0) ∈ rs := by
    have h1 : rwD (0, 0) ∈ rs.map rwD := hp3.mem_iff.mpr (List.mem_map.mpr ⟨_, hz2, rfl⟩)
    obtain ⟨⟨a, b⟩, hx, hy⟩ := List.mem_map.mp h1
    have : PyData.tuple [.int a, .int b] = .tuple [.int 0, .int 0] := hy
    cases this
    exact hx
  obtain ⟨zs, ρ', e4, ⟨ds4, hd4, rfl⟩, hP⟩ := lcL_inv2 (vs := [4]) (g := gNm 4) (oe := C1__law_library) (k := fun i : Nat => PyData.int ((i : Nat) : Int)) (P := fun i y => ∃ c : Cl, y = clD c ∧ ClOk c ∧ ∃ p, rs[i]? = some p ∧ c.pins = p.2)
    (fun ρ => ∃ ds, DOK ds ∧ ρ = [.ow true (.li ds), .pu (.int e), .ow false (.li (ns.map PyData.str)), .ow false (.li (rs.map rwD)), .no, .no, k6]) (l := List.range (4 + e)) (ρ := [.ow true (.li ds3), .pu (.int e), .ow false (.li (ns.map PyData.str)), .ow false (.li (rs.map rwD)), .no, .no, k6]) (by
      rintro i hi ρ ⟨ds, hd, rfl⟩
      have hi' := List.mem_range.mp hi
      obtain ⟨r, da, hda, r0, r1, ea⟩ := draw hd (m := 10) (by decide) (by decide)
      obtain ⟨t, db, hdb, t0, t1, eb⟩ := draw hda (m := 5) (by decide) (by decide)
      have hnl : ns.length = 13 := hns
      have x1 := at_m PyData.str (List.getElem?_eq_getElem (show i < ns.length by omega))
      have x2 := at_m rwD (List.getElem?_eq_getElem (show i < rs.length by omega))
      have x3 := hr2 _ (hrs _ (List.getElem_mem (show i < rs.length by omega)))
      have x4 := List.getElem?_eq_getElem (show i < rs.length by omega)
      have x5 := hshape _ (List.getElem_mem (show i < ns.length by omega))
      generalize rs[i] = p at *
      generalize ns[i] = s at *
      generalize hI : ((i : Nat) : Int) = I at *
      generalize ns.map PyData.str = NS at *
      generalize rs.map rwD = RS at *
      refine ⟨clD ⟨s, p.1, p.2, r, t⟩, [.ow true (.li ds), .pu (.int e), .ow false (.li NS), .ow false (.li RS), .pu (.int I), .no, k6], [.ow true (.li db), .pu (.int e), .ow false (.li NS), .ow false (.li RS), .pu (.int I), .no, k6], by simp [setSl_ok], ?_, ⟨_, rfl, ⟨x3.2.1, x3.2.2, r0, r1, t0, t1, x3.1, x5⟩, p, x4, rfl⟩, db, hdb, by simp [wipeR]⟩
      simp [-rg1_eq, -f_shl, -ap_range3, -List.map_replicate, ap_var, ap_retV, setSl_ok, fnOf_eq, bin1_eq, lc1_eq, okW, loose, wipeR, restR, lcE, wb1, wb2, wb3, wb4, wb5, wb6, wb7, C1__law_library, x1, x2, rwD, ea, eb, clD]) ⟨ds3, hd3, rfl⟩
  obtain ⟨cs, rfl, hcs⟩ := ex_map2 (f := clD) hP
  refine ⟨ds4, cs, hd4, ⟨?_, ?_, ?_⟩, ?_⟩
  · rw [← paired_len hcs, List.length_range]; omega
  · intro c hc
    obtain ⟨i, hi, rfl⟩ := List.getElem_of_mem hc
    have hi2 : i < (List.range (4 + e)).length := by rw [paired_len hcs]; exact hi
    obtain ⟨x, hx, ho, _⟩ := paired_get hcs (List.getElem?_eq_getElem hi2)
    rw [List.getElem?_eq_getElem hi] at hx
    cases hx
    exact ho
  · obtain ⟨i, hi, hz⟩ := List.getElem_of_mem hz3
    have hi2 : i < (List.range (4 + e)).length := by rw [List.length_range]; omega
    obtain ⟨x, hx, _, p, hp, hpp⟩ := paired_get hcs (List.getElem?_eq_getElem hi2)
    rw [List.getElem_range, List.getElem?_eq_getElem hi, hz] at hp
    cases hp
    exact ⟨x, List.mem_of_getElem? hx, hpp⟩
  · have hrg := fun ρ => rg1_nat (n := e) (by omega) ρ
    have hrg4 := fun ρ => rg1_nat (n := 4 + e) (by omega) ρ
    have hlen : (rangeD 0 (4 + e)).length ≤ 16000000 := by rw [rangeD_length]; omega
    rw [← rangeD_map] at e4
    have hln : (rs.map rwD).length = 4 + e := by rw [List.length_map]; exact hrl
    have hok : okW [.ow true (.li ds3), .pu (.int e), .ow false (.li (ns.map PyData.str)), .ow false (.li (rs.map rwD)), k4, .no, k6] [4] = true := by simpa [okW] using q4
    have hlen3 : len1 (.rf 3) [.ow true (.li ds3), .pu (.int e), .ow false (.li (ns.map PyData.str)), .ow false (.li (rs.map rwD)), k4, .no, k6] = .ok (.pu (.int ((4 + e : Nat) : Int))) [.ow true (.li ds3), .pu (.int e), .ow false (.li (ns.map PyData.str)), .ow false (.li (rs.map rwD)), k4, .no, k6] := by
      show M.ok (Rs.pu (.int (((rs.map rwD).length : Nat) : Int))) _ = _
      rw [hln]
    have e1' : g__law_shuffled [.ow true (.li ds), .pu (.list [.str "x1", .str "inv", .str "nd2", .str "tie0", .str "tie1", .str "ao", .str "big", .str "mux2", .str "buf", .str "z", .str "nor", .str "maj3", .str "q9"])] = .ret (.nw (.li (ns.map PyData.str))) [.ow true (.li ds1), .pu (.list [.str "x1", .str "inv", .str "nd2", .str "tie0", .str "tie1", .str "ao", .str "big", .str "mux2", .str "buf", .str "z", .str "nor", .str "maj3", .str "q9"])] := e1
    generalize rangeD 0 (4 + e) = RG4 at *
    generalize rangeD 0 e = RG at *
    generalize ((4 + e : Nat) : Int) = N4 at *
    generalize ((e : Nat) : Int) = N at *
    generalize ns.map PyData.str = NS at *
    generalize rs.map rwD = RS at *
    generalize rows.map rwD = RO at *
    generalize cs.map clD = CS at *
    simp [-rg1_eq, -f_shl, -ap_range3, -List.map_replicate, ap_var, ap_retV, setSl_ok, fnOf_eq, bin1_eq, lc1_eq, okW, loose, wipeR, restR, lcE, wb1, wb2, wb3, wb4, wb5, wb6, wb7, g__law_library, b__law_library, e1', hrg, e2, e3, -okW, hok, hlen3, hrg4, hlen, e4]

end K36
namespace K36
open PySem Ow
/-! mapped nets -/
structure Mp where
  nms : List Str
  hs : List (Str × Int × Int)
  ms : List (Cl × List Int)
  os : List (Str × Int)
def hdD (h : Str × Int × Int) : D := .tuple [.str h.1, .int h.2.1, .int h.2.2]
def mcD (m : Cl × List Int) : D := .tuple [.str m.1.nm, .tuple (m.2.map .int)]
def ouD (o : Str × Int) : D := .tuple [.str o.1, .int o.2]
def mpD (m : Mp) : D := .tuple [.tuple (m.nms.map .str), .tuple (m.hs.map hdD), .tuple (m.ms.map mcD), .tuple (m.os.map ouD)]
def Mp.first (m : Mp) : Nat := m.nms.length + m.hs.length
def Mp.size (m : Mp) : Nat := m.first + m.ms.length
def MsOk (cs : List Cl) (first : Nat) (ms : List (Cl × List Int)) : Prop := ∀ (k : Nat) (x : Cl × List Int), ms[k]? = some x → x.1 ∈ cs ∧ (x.2.length : Int) = x.1.pins ∧ ∀ s ∈ x.2, 0 ≤ s ∧ s < ((first + k : Nat) : Int)
structure MpOk (cs : List Cl) (m : Mp) : Prop where
  hs : ∀ h ∈ m.hs, 0 ≤ h.2.2 ∧ h.2.2 < (m.size : Int)
  ms : MsOk cs m.first m.ms
  os : ∀ o ∈ m.os, 0 ≤ o.2 ∧ o.2 < (m.size : Int)
theorem nmd_ok {cs : List Cl} (h : LibOk cs) : ∃ (pre : List Cl) (c : Cl), cs.filter (fun c => decide (0 < c.pins)) ++ cs.filter (fun c => decide (c.pins = 0)) = pre ++ [c] ∧ c.pins = 0 ∧ (∀ x ∈ pre ++ [c], x ∈ cs) ∧ (pre ++ [c]).length ≤ 26 := by
  obtain ⟨h1, _, c0, hc, h0⟩ := h
  have hm : c0 ∈ cs.filter (fun c => decide (c.pins = 0)) := List.mem_filter.mpr ⟨hc, by simpa using h0⟩
  generalize hB : cs.filter (fun c => decide (c.pins = 0)) = B at hm
  have hne : B ≠ [] := fun e => by rw [e] at hm; cases hm
  have hl1 := List.length_filter_le (fun c => decide (0 < c.pins)) cs
  have hl2 := List.length_filter_le (fun c => decide (c.pins = 0)) cs
  rw [hB] at hl2
  refine ⟨cs.filter (fun c => decide (0 < c.pins)) ++ B.dropLast, B.getLast hne, ?_, ?_, ?_, ?_⟩
  · rw [List.append_assoc, List.dropLast_concat_getLast]
  · have h4 : B.getLast hne ∈ cs.filter (fun c => decide (c.pins = 0)) := by rw [hB]; exact List.getLast_mem hne
    simpa using (List.mem_filter.mp h4).2
  · rw [List.append_assoc, List.dropLast_concat_getLast]
    intro x hx
    rcases List.mem_append.mp hx with hx | hx
    · exact (List.mem_filter.mp hx).1
    · rw [← hB] at hx; exact (List.mem_filter.mp hx).1
  · rw [List.append_assoc, List.dropLast_concat_getLast, List.length_append]; omega
theorem lc_srcs {ds : List D} (h : DOK ds) {first k p : Nat} (hp : p = 0 ∨ 0 < first + k) (hb : first + k ≤ 1000000) {I R C O : Int} {cs : List Cl} {s7 s8 s15 : Sl} : ∃ (ss : List Int) (ds' : List D), DOK ds' ∧ ss.length = p ∧ (∀ s ∈ ss, 0 ≤ s ∧ s < ((first + k : Nat) : Int)) ∧
    lcL [16] (gNm 16) oYes C3__law_drawn_mapped (rangeD 0 p) [.ow true (.li ds), .pu (.int I), .pu (.int R), .pu (.int C), .pu (.int O), .pu (.tuple (cs.map clD)), .pu (.int first), s7, s8, .pu (.int k), .no, .no, .no, .no, .no, s15, .no] = .ok (ss.map .int) [.ow true (.li ds'), .pu (.int I), .pu (.int R), .pu (.int C), .pu (.int O), .pu (.tuple (cs.map clD)), .pu (.int first), s7, s8, .pu (.int k), .no, .no, .no, .no, .no, s15, .no] := by
  obtain ⟨ys, ρ', e, ⟨ds', hd', rfl⟩, hl, hy⟩ := lcL_inv (vs := [16]) (g := gNm 16) (oe := C3__law_drawn_mapped) (P := fun y => ∃ x : Int, y = .int x ∧ 0 ≤ x ∧ x < ((first + k : Nat) : Int))
    (fun ρ => ∃ ds, DOK ds ∧ ρ = [.ow true (.li ds), .pu (.int I), .pu (.int R), .pu (.int C), .pu (.int O), .pu (.tuple (cs.map clD)), .pu (.int first), s7, s8, .pu (.int k), .no, .no, .no, .no, .no, s15, .no]) (ds := rangeD 0 p) (ρ := [.ow true (.li ds), .pu (.int I), .pu (.int R), .pu (.int C), .pu (.int O), .pu (.tuple (cs.map clD)), .pu (.int first), s7, s8, .pu (.int k), .no, .no, .no, .no, .no, s15, .no]) (by
      rintro d hd ρ ⟨ds, hd2, rfl⟩
      have hp0 : 0 < p := by
        rcases Nat.eq_zero_or_pos p with rfl | q
        · rw [show rangeD 0 0 = [] from rfl] at hd; cases hd
        · exact q
      have hpos : 0 < first + k := by omega
      obtain ⟨r, ds', hd', r0, r1, e⟩ := signal hd2 (m := ((first : Nat) : Int) + ((k : Nat) : Int)) (by omega) (by omega)
      refine ⟨.int r, [.ow true (.li ds), .pu (.int I), .pu (.int R), .pu (.int C), .pu (.int O), .pu (.tuple (cs.map clD)), .pu (.int first), s7, s8, .pu (.int k), .no, .no, .no, .no, .no, s15, .pu d], [.ow true (.li ds'), .pu (.int I), .pu (.int R), .pu (.int C), .pu (.int O), .pu (.tuple (cs.map clD)), .pu (.int first), s7, s8, .pu (.int k), .no, .no, .no, .no, .no, s15, .pu d], by simp [setSl_ok], ?_, ⟨r, rfl, r0, by omega⟩, ds', hd', by simp [wipeR]⟩
      generalize ((first : Nat) : Int) = F at *
      generalize ((k : Nat) : Int) = K at *
      simp [-rg1_eq, -f_shl, -ap_range3, -List.map_replicate, ap_var, ap_retV, setSl_ok, fnOf_eq, bin1_eq, lc1_eq, okW, loose, wipeR, restR, lcE, wb1, wb2, wb3, wb4, wb5, wb6, wb7, C3__law_drawn_mapped, e]) ⟨ds, h, rfl⟩
  obtain ⟨ss, rfl, hs⟩ := ex_map (f := PyData.int) hy
  rw [List.length_map, rangeD_length] at hl
  exact ⟨ss, ds', hd', hl, hs, e⟩
theorem mp_step {ds : List D} (h : DOK ds) {cs : List Cl} (hcs : LibOk cs) {pre : List Cl} {c0 : Cl} (h0 : c0.pins = 0) (hpc : ∀ x ∈ pre ++ [c0], x ∈ cs) (hpl : (pre ++ [c0]).length ≤ 26) {first k : Nat} (hb : first + k ≤ 1000000) {I R C O : Int} {ms : List (Cl × List Int)} (hm : ms.length ≤ 1000) {s15 : Sl} (q15 : okS (some s15) = true) :
    ∃ ds' x, DOK ds' ∧ x.1 ∈ cs ∧ (x.2.length : Int) = x.1.pins ∧ (∀ s ∈ x.2, 0 ≤ s ∧ s < ((first + k : Nat) : Int)) ∧ ∃ s15', okS (some s15') = true ∧ loose (some s15') = true ∧
      L1__law_drawn_mapped [.ow true (.li ds), .pu (.int I), .pu (.int R), .pu (.int C), .pu (.int O), .pu (.tuple (cs.map clD)), .pu (.int first), .ow false (.li ((pre ++ [c0]).map clD)), .ow false (.li (ms.map mcD)), .pu (.int k), .no, .no, .no, .no, .no, s15, .no] = .nx [.ow true (.li ds'), .pu (.int I), .pu (.int R), .pu (.int C), .pu (.int O), .pu (.tuple (cs.map clD)), .pu (.int first), .ow false (.li ((pre ++ [c0]).map clD)), .ow false (.li ((ms ++ [x]).map mcD)), .pu (.int k), .no, .no, .no, .no, .no, s15', .no] := by
  have hnl : 0 < (pre ++ [c0]).length := by simp
  obtain ⟨r, ds1, hd1, r0, r1, e1⟩ := draw h (m := (((pre ++ [c0]).length : Nat) : Int) + 3) (by omega) (by omega)
  obtain ⟨i, hi0, hi1, hmax⟩ : ∃ i : Int, 0 ≤ i ∧ i < (((pre ++ [c0]).length : Nat) : Int) ∧ fMax2 [.int ((((pre ++ [c0]).length : Nat) : Int) - 1 - r), .int 0] = some (.pu (.int i)) := ⟨_, by split <;> omega, by split <;> omega, rfl⟩
  have hit : i.toNat < (pre ++ [c0]).length := by omega
  have x1 := at_mi clD hi0 (List.getElem?_eq_getElem hit)
  have hlast : L2.atI ((pre ++ [c0]).map clD) (-1) = some (clD c0) := by rw [List.map_append]; exact atI_last _ _
  have hcl : (((pre ++ [c0]).map clD).length : Int) = (((pre ++ [c0]).length : Nat) : Int) := by rw [List.length_map]
  obtain ⟨c, hc, hsel, hpz⟩ : ∃ c, c ∈ pre ++ [c0] ∧ (if ((first : Nat) : Int) + ((k : Nat) : Int) = 0 then c0 else (pre ++ [c0])[i.toNat]) = c ∧ (c.pins.toNat = 0 ∨ 0 < first + k) := by
    refine ⟨_, ?_, rfl, ?_⟩
    · split
      · simp
      · exact List.getElem_mem hit
    · by_cases q : 0 < first + k
      · exact .inr q
      · rw [if_pos (by omega), h0]; exact .inl rfl
  have hco := hcs.2.1 c (hpc c hc)
  obtain ⟨ss, ds2, hd2, hl, hs, e2⟩ := lc_srcs hd1 hpz hb (I := I) (R := R) (C := C) (O := O) (cs := cs) (s7 := .ow false (.li ((pre ++ [c0]).map clD))) (s8 := .ow false (.li (ms.map mcD))) (s15 := .pu (clD c))
  have hlen : (rangeD 0 c.pins.toNat).length ≤ 16000000 := by
    have := hco.2.1
    rw [rangeD_length]; omega
  have hrg := fun ρ => rg1_int (n := c.pins) hco.1 (by have := hco.2.1; omega) ρ
  have hml : (ms.map mcD).length < 16000000 := by rw [List.length_map]; omega
  refine ⟨ds2, (c, ss), hd2, hpc c hc, by rw [hl]; have := hco.1; show ((c.pins.toNat : Nat) : Int) = c.pins; omega, hs, .pu (clD c), rfl, rfl, ?_⟩
  rw [show (ms ++ [(c, ss)]).map mcD = ms.map mcD ++ [mcD (c, ss)] by rw [List.map_append]; rfl]
  generalize (pre ++ [c0]).map clD = NM at *
  generalize (((pre ++ [c0]).length : Nat) : Int) = N at *
  generalize ms.map mcD = MM at *
  generalize cs.map clD = CM at *
  generalize rangeD 0 c.pins.toNat = RG at *
  generalize hg : (pre ++ [c0])[i.toNat] = cg at *
  generalize ((first : Nat) : Int) = F at *
  generalize ((k : Nat) : Int) = K at *
  have hx0 : fIx (clD c) (.int 0) = some (.pu (.str c.nm)) := rfl
  have hx2 : fIx (clD c) (.int 2) = some (.pu (.int c.pins)) := rfl
  by_cases q : F + K = 0
  · rw [if_pos q] at hsel
    subst hsel
    simp [-rg1_eq, -f_shl, -ap_range3, -List.map_replicate, ap_var, ap_retV, setSl_ok, fnOf_eq, bin1_eq, lc1_eq, okW, loose, wipeR, restR, lcE, wb1, wb2, wb3, wb4, wb5, wb6, wb7, L1__law_drawn_mapped, len1_rf, hcl, e1, -List.length_map, hmax, x1, q15, q, eqInt, hlast, hx0, hx2, hrg, hlen, e2, hml, mcD]
  · rw [if_neg q] at hsel
    subst hsel
    simp [-rg1_eq, -f_shl, -ap_range3, -List.map_replicate, ap_var, ap_retV, setSl_ok, fnOf_eq, bin1_eq, lc1_eq, okW, loose, wipeR, restR, lcE, wb1, wb2, wb3, wb4, wb5, wb6, wb7, L1__law_drawn_mapped, len1_rf, hcl, e1, -List.length_map, hmax, x1, q15, q, eqInt, hlast, hx0, hx2, hrg, hlen, e2, hml, mcD]

end K36
namespace K36
open PySem Ow
theorem add_s {a b : Str} (h : a.length + b.length ≤ 16000000) : fAdd (.str a) (.str b) = some (.pu (.str (a ++ b))) := by rw [f_addS, if_pos h]
theorem lc_held {ds : List D} (h : DOK ds) {n size : Nat} (hn : n ≤ 60) (hz : n = 0 ∨ 0 < size) (hb : size ≤ 1000000) {I R C O : Int} {cs : List Cl} {s6 s7 s8 s11 s12 s13 s14 s15 : Sl} : ∃ (hs : List (Str × Int × Int)) (ds' : List D), DOK ds' ∧ hs.length = n ∧ (∀ h ∈ hs, 0 ≤ h.2.2 ∧ h.2.2 < (size : Int)) ∧
    lcL [9] (gNm 9) oYes C2__law_drawn_mapped (rangeD 0 n) [.ow true (.li ds), .pu (.int I), .pu (.int R), .pu (.int C), .pu (.int O), .pu (.tuple (cs.map clD)), s6, s7, s8, .no, .pu (.int size), s11, s12, s13, s14, s15, .no] = .ok (hs.map hdD) [.ow true (.li ds'), .pu (.int I), .pu (.int R), .pu (.int C), .pu (.int O), .pu (.tuple (cs.map clD)), s6, s7, s8, .no, .pu (.int size), s11, s12, s13, s14, s15, .no] := by
  obtain ⟨ys, ρ', e, ⟨ds', hd', rfl⟩, hl, hy⟩ := lcL_inv (vs := [9]) (g := gNm 9) (oe := C2__law_drawn_mapped) (P := fun y => ∃ x : Str × Int × Int, y = hdD x ∧ 0 ≤ x.2.2 ∧ x.2.2 < (size : Int))
    (fun ρ => ∃ ds, DOK ds ∧ ρ = [.ow true (.li ds), .pu (.int I), .pu (.int R), .pu (.int C), .pu (.int O), .pu (.tuple (cs.map clD)), s6, s7, s8, .no, .pu (.int size), s11, s12, s13, s14, s15, .no]) (ds := rangeD 0 n) (ρ := [.ow true (.li ds), .pu (.int I), .pu (.int R), .pu (.int C), .pu (.int O), .pu (.tuple (cs.map clD)), s6, s7, s8, .no, .pu (.int size), s11, s12, s13, s14, s15, .no]) (by
      rintro d hd ρ ⟨ds, hd2, rfl⟩
      rw [rangeD_map] at hd
      obtain ⟨k, hk, rfl⟩ := List.mem_map.mp hd
      have hk := List.mem_range.mp hk
      obtain ⟨s, hs, es⟩ := str_num (k := k) (by omega)
      obtain ⟨t, ds1, hd1, t0, t1, e1⟩ := draw hd2 (m := 2) (by decide) (by decide)
      obtain ⟨r, ds', hd', r0, r1, e⟩ := signal hd1 (m := (size : Int)) (by omega) (by omega)
      have hq : (("q" : Str) ++ s).length = ("q" : Str).length + s.length := Str.length_append _ _
      have hq1 : ("q" : Str).length = 1 := rfl
      have hq2 : (".0" : Str).length = 2 := rfl
      have a1 := add_s (a := "q") (b := s) (by rw [hq1]; omega)
      have a2 := add_s (a := "q" ++ s) (b := ".0") (by rw [hq, hq1, hq2]; omega)
      refine ⟨hdD ("q" ++ s ++ ".0", t, r), [.ow true (.li ds), .pu (.int I), .pu (.int R), .pu (.int C), .pu (.int O), .pu (.tuple (cs.map clD)), s6, s7, s8, .pu (.int k), .pu (.int size), s11, s12, s13, s14, s15, .no], [.ow true (.li ds'), .pu (.int I), .pu (.int R), .pu (.int C), .pu (.int O), .pu (.tuple (cs.map clD)), s6, s7, s8, .pu (.int k), .pu (.int size), s11, s12, s13, s14, s15, .no], by simp [setSl_ok], ?_, ⟨_, rfl, r0, r1⟩, ds', hd', by simp [wipeR]⟩
      generalize ((size : Nat) : Int) = Z at *
      generalize ((k : Nat) : Int) = K at *
      simp [-rg1_eq, -f_shl, -ap_range3, -List.map_replicate, ap_var, ap_retV, setSl_ok, fnOf_eq, bin1_eq, lc1_eq, okW, loose, wipeR, restR, lcE, wb1, wb2, wb3, wb4, wb5, wb6, wb7, C2__law_drawn_mapped, -f_str, -f_addS, es, a1, a2, e1, e, hdD]) ⟨ds, h, rfl⟩
  obtain ⟨hs, rfl, hh⟩ := ex_map (f := hdD) hy
  rw [List.length_map, rangeD_length] at hl
  exact ⟨hs, ds', hd', hl, hh, e⟩
theorem lc_shown {ds : List D} (h : DOK ds) {n size : Nat} (hn : n ≤ 60) (hz : n = 0 ∨ 0 < size) (hb : size ≤ 1000000) {I R C O : Int} {cs : List Cl} {s6 s7 s8 s11 s12 s13 s14 s15 : Sl} : ∃ (hs : List (Str × Int)) (ds' : List D), DOK ds' ∧ hs.length = n ∧ (∀ h ∈ hs, 0 ≤ h.2 ∧ h.2 < (size : Int)) ∧
    lcL [9] (gNm 9) oYes C1__law_drawn_mapped (rangeD 0 n) [.ow true (.li ds), .pu (.int I), .pu (.int R), .pu (.int C), .pu (.int O), .pu (.tuple (cs.map clD)), s6, s7, s8, .no, .pu (.int size), s11, s12, s13, s14, s15, .no] = .ok (hs.map ouD) [.ow true (.li ds'), .pu (.int I), .pu (.int R), .pu (.int C), .pu (.int O), .pu (.tuple (cs.map clD)), s6, s7, s8, .no, .pu (.int size), s11, s12, s13, s14, s15, .no] := by
  obtain ⟨ys, ρ', e, ⟨ds', hd', rfl⟩, hl, hy⟩ := lcL_inv (vs := [9]) (g := gNm 9) (oe := C1__law_drawn_mapped) (P := fun y => ∃ x : Str × Int, y = ouD x ∧ 0 ≤ x.2 ∧ x.2 < (size : Int))
    (fun ρ => ∃ ds, DOK ds ∧ ρ = [.ow true (.li ds), .pu (.int I), .pu (.int R), .pu (.int C), .pu (.int O), .pu (.tuple (cs.map clD)), s6, s7, s8, .no, .pu (.int size), s11, s12, s13, s14, s15, .no]) (ds := rangeD 0 n) (ρ := [.ow true (.li ds), .pu (.int I), .pu (.int R), .pu (.int C), .pu (.int O), .pu (.tuple (cs.map clD)), s6, s7, s8, .no, .pu (.int size), s11, s12, s13, s14, s15, .no]) (by
      rintro d hd ρ ⟨ds, hd2, rfl⟩
      rw [rangeD_map] at hd
      obtain ⟨k, hk, rfl⟩ := List.mem_map.mp hd
      have hk := List.mem_range.mp hk
      obtain ⟨s, hs, es⟩ := str_num (k := k) (by omega)
      obtain ⟨r, ds', hd', r0, r1, e⟩ := signal hd2 (m := (size : Int)) (by omega) (by omega)
      have hq : (("o" : Str) ++ s).length = ("o" : Str).length + s.length := Str.length_append _ _
      have hq1 : ("o" : Str).length = 1 := rfl
      have hq2 : (".0" : Str).length = 2 := rfl
      have a1 := add_s (a := "o") (b := s) (by rw [hq1]; omega)
      have a2 := add_s (a := "o" ++ s) (b := ".0") (by rw [hq, hq1, hq2]; omega)
      refine ⟨ouD ("o" ++ s ++ ".0", r), [.ow true (.li ds), .pu (.int I), .pu (.int R), .pu (.int C), .pu (.int O), .pu (.tuple (cs.map clD)), s6, s7, s8, .pu (.int k), .pu (.int size), s11, s12, s13, s14, s15, .no], [.ow true (.li ds'), .pu (.int I), .pu (.int R), .pu (.int C), .pu (.int O), .pu (.tuple (cs.map clD)), s6, s7, s8, .pu (.int k), .pu (.int size), s11, s12, s13, s14, s15, .no], by simp [setSl_ok], ?_, ⟨_, rfl, r0, r1⟩, ds', hd', by simp [wipeR]⟩
      generalize ((size : Nat) : Int) = Z at *
      generalize ((k : Nat) : Int) = K at *
      simp [-rg1_eq, -f_shl, -ap_range3, -List.map_replicate, ap_var, ap_retV, setSl_ok, fnOf_eq, bin1_eq, lc1_eq, okW, loose, wipeR, restR, lcE, wb1, wb2, wb3, wb4, wb5, wb6, wb7, C1__law_drawn_mapped, -f_str, -f_addS, es, a1, a2, e, ouD]) ⟨ds, h, rfl⟩
  obtain ⟨hs, rfl, hh⟩ := ex_map (f := ouD) hy
  rw [List.length_map, rangeD_length] at hl
  exact ⟨hs, ds', hd', hl, hh, e⟩
theorem map_ok {α β : Type} {f : α → β} {xs : List α} {ys : List β} (h : ys = xs.map f) : ys.length = xs.length := by rw [h, List.length_map]
theorem mapped {ds : List D} (h : DOK ds) {i r c o : Nat} (hi : i ≤ 6) (hr : r ≤ 60) (hc : c ≤ 1000) (ho : o ≤ 60) {cs : List Cl} (hcs : LibOk cs) : ∃ ds' m, DOK ds' ∧ MpOk cs m ∧ m.nms.length = i ∧ m.hs.length = r ∧ m.ms.length = c ∧ m.os.length ≤ o ∧
    g__law_drawn_mapped [.ow true (.li ds), .pu (.int i), .pu (.int r), .pu (.int c), .pu (.int o), .pu (.tuple (cs.map clD))] = .ret (.pu (mpD m)) [.ow true (.li ds'), .pu (.int i), .pu (.int r), .pu (.int c), .pu (.int o), .pu (.tuple (cs.map clD))] := by
  obtain ⟨pre, c0, hnm, h0, hpc, hpl⟩ := nmd_ok hcs
  have lcA : ∀ (I R C O : Int) (d s6 s7 s8 : Sl), lcL [15] (gNm 15) T1__law_drawn_mapped C4__law_drawn_mapped (cs.map clD) [d, .pu (.int I), .pu (.int R), .pu (.int C), .pu (.int O), .pu (.tuple (cs.map clD)), s6, s7, s8, .no, .no, .no, .no, .no, .no, .no, .no] = .ok ((cs.filter fun c => decide (0 < c.pins)).map clD) [d, .pu (.int I), .pu (.int R), .pu (.int C), .pu (.int O), .pu (.tuple (cs.map clD)), s6, s7, s8, .no, .no, .no, .no, .no, .no, .no, .no] := fun I R C O d s6 s7 s8 =>
    lcL_filter fun a _ => by
      have hx : fIx (clD a) (.int 2) = some (.pu (.int a.pins)) := rfl
      exact ⟨[d, .pu (.int I), .pu (.int R), .pu (.int C), .pu (.int O), .pu (.tuple (cs.map clD)), s6, s7, s8, .no, .no, .no, .no, .no, .no, .pu (clD a), .no], [d, .pu (.int I), .pu (.int R), .pu (.int C), .pu (.int O), .pu (.tuple (cs.map clD)), s6, s7, s8, .no, .no, .no, .no, .no, .no, .pu (clD a), .no], by simp [setSl_ok], by simp [-rg1_eq, -f_shl, -ap_range3, -List.map_replicate, ap_var, ap_retV, setSl_ok, fnOf_eq, bin1_eq, lc1_eq, okW, loose, wipeR, restR, lcE, wb1, wb2, wb3, wb4, wb5, wb6, wb7, T1__law_drawn_mapped, hx], fun _ => ⟨[d, .pu (.int I), .pu (.int R), .pu (.int C), .pu (.int O), .pu (.tuple (cs.map clD)), s6, s7, s8, .no, .no, .no, .no, .no, .no, .pu (clD a), .no], by simp [-rg1_eq, -f_shl, -ap_range3, -List.map_replicate, ap_var, ap_retV, setSl_ok, fnOf_eq, bin1_eq, lc1_eq, okW, loose, wipeR, restR, lcE, wb1, wb2, wb3, wb4, wb5, wb6, wb7, C4__law_drawn_mapped], by simp [wipeR]⟩, fun _ => by simp [wipeR]⟩
  have lcB : ∀ (I R C O : Int) (d s6 s7 s8 : Sl), lcL [15] (gNm 15) T2__law_drawn_mapped C5__law_drawn_mapped (cs.map clD) [d, .pu (.int I), .pu (.int R), .pu (.int C), .pu (.int O), .pu (.tuple (cs.map clD)), s6, s7, s8, .no, .no, .no, .no, .no, .no, .no, .no] = .ok ((cs.filter fun c => decide (c.pins = 0)).map clD) [d, .pu (.int I), .pu (.int R), .pu (.int C), .pu (.int O), .pu (.tuple (cs.map clD)), s6, s7, s8, .no, .no, .no, .no, .no, .no, .no, .no] := fun I R C O d s6 s7 s8 =>
    lcL_filter fun a _ => by
      have hx : fIx (clD a) (.int 2) = some (.pu (.int a.pins)) := rfl
      exact ⟨[d, .pu (.int I), .pu (.int R), .pu (.int C), .pu (.int O), .pu (.tuple (cs.map clD)), s6, s7, s8, .no, .no, .no, .no, .no, .no, .pu (clD a), .no], [d, .pu (.int I), .pu (.int R), .pu (.int C), .pu (.int O), .pu (.tuple (cs.map clD)), s6, s7, s8, .no, .no, .no, .no, .no, .no, .pu (clD a), .no], by simp [setSl_ok], by simp [-rg1_eq, -f_shl, -ap_range3, -List.map_replicate, ap_var, ap_retV, setSl_ok, fnOf_eq, bin1_eq, lc1_eq, okW, loose, wipeR, restR, lcE, wb1, wb2, wb3, wb4, wb5, wb6, wb7, T2__law_drawn_mapped, hx, eqInt], fun _ => ⟨[d, .pu (.int I), .pu (.int R), .pu (.int C), .pu (.int O), .pu (.tuple (cs.map clD)), s6, s7, s8, .no, .no, .no, .no, .no, .no, .pu (clD a), .no], by simp [-rg1_eq, -f_shl, -ap_range3, -List.map_replicate, ap_var, ap_retV, setSl_ok, fnOf_eq, bin1_eq, lc1_eq, okW, loose, wipeR, restR, lcE, wb1, wb2, wb3, wb4, wb5, wb6, wb7, C5__law_drawn_mapped], by simp [wipeR]⟩, fun _ => by simp [wipeR]⟩
  obtain ⟨ρ', e2, ds2, ms, k9, s15, rfl, hd2, hm2, hl2, q9, q15, p15⟩ := forL_inv (g := gNm 9) (b := L1__law_drawn_mapped)
    (fun l ρ => ∃ ds ms k9 s15, ρ = [.ow true (.li ds), .pu (.int i), .pu (.int r), .pu (.int c), .pu (.int o), .pu (.tuple (cs.map clD)), .pu (.int ((i + r : Nat) : Int)), .ow false (.li ((pre ++ [c0]).map clD)), .ow false (.li (ms.map mcD)), k9, .no, .no, .no, .no, .no, s15, .no] ∧ DOK ds ∧ MsOk cs (i + r) ms ∧ (∃ m, l = (List.range' ms.length m).map (fun i => .int ((i : Nat) : Int)) ∧ ms.length + m = c) ∧ loose (some k9) = true ∧ okS (some s15) = true ∧ loose (some s15) = true)
    (ds := rangeD 0 c) (ρ := [.ow true (.li ds), .pu (.int i), .pu (.int r), .pu (.int c), .pu (.int o), .pu (.tuple (cs.map clD)), .pu (.int ((i + r : Nat) : Int)), .ow false (.li ((pre ++ [c0]).map clD)), .ow false (.li []), .no, .no, .no, .no, .no, .no, .no, .no]) (by
      rintro d l ρ _ ⟨ds, ms, k9, s15, rfl, hd, hm, ⟨m, hl, hmc⟩, q9, q15, p15⟩
      cases m with
      | zero => cases hl
      | succ m =>
        rw [List.range'_succ, List.map_cons] at hl
        cases hl
        obtain ⟨ds', x, hd', hx1, hx2, hx3, s15', q15', p15', e⟩ := mp_step hd hcs h0 hpc hpl (first := i + r) (k := ms.length) (by omega) (I := i) (R := r) (C := c) (O := o) (ms := ms) (by omega) q15
        have q9' : okS (some k9) = true := by cases k9 with | ow p c => cases q9 | _ => rfl
        refine ⟨[.ow true (.li ds), .pu (.int i), .pu (.int r), .pu (.int c), .pu (.int o), .pu (.tuple (cs.map clD)), .pu (.int ((i + r : Nat) : Int)), .ow false (.li ((pre ++ [c0]).map clD)), .ow false (.li (ms.map mcD)), .pu (.int ((ms.length : Nat) : Int)), .no, .no, .no, .no, .no, s15, .no], _, by simp [setSl_ok, q9'], .inl e, ds', ms ++ [x], _, _, rfl, hd', ?_, ⟨m, by rw [List.length_append]; rfl, by rw [List.length_append]; simp; omega⟩, rfl, q15', p15'⟩
        intro k y hy
        rcases Nat.lt_trichotomy k ms.length with q | q | q
        · rw [List.getElem?_append_left q] at hy; exact hm k y hy
        · subst q
          rw [List.getElem?_append_right (Nat.le_refl _), Nat.sub_self] at hy
          cases hy
          exact ⟨hx1, hx2, hx3⟩
        · rw [List.getElem?_append_right (by omega)] at hy
          rw [List.getElem?_eq_none (by simp; omega)] at hy
          cases hy) ⟨ds, [], _, _, rfl, h, fun k x hx => by simp at hx, ⟨c, by rw [rangeD_map, List.range_eq_range']; rfl, by simp⟩, rfl, rfl, rfl⟩
  obtain ⟨m0, hm0, hmc⟩ := hl2
  have hm00 : m0 = 0 := by
    have := congrArg List.length hm0
    simpa using this.symm
  subst hm00
  have hmsl : ms.length = c := by omega
  obtain ⟨ys, ds3, hd3, hp3, e3⟩ := shuffled hd2 (xs := (["a.0", "b2.0", "b2.1", "sum.0", "r.0", "z9z.0"] : List Str).map PyData.str) (by decide)
  obtain ⟨ns, rfl, hns, _⟩ := map_names hp3
  obtain ⟨hs, ds4, hd4, hhl, hh, e4⟩ := lc_held hd3 (n := r) (size := i + r + c) hr (by omega) (by omega) (I := i) (R := r) (C := c) (O := o) (cs := cs) (s6 := .pu (.int ((i + r : Nat) : Int))) (s7 := .ow false (.li ((pre ++ [c0]).map clD))) (s8 := .ow false (.li (ms.map mcD))) (s11 := .pu (.tuple ((ns.take i).map PyData.str))) (s12 := .no) (s13 := .no) (s14 := .no) (s15 := s15)
  obtain ⟨n2, hn2, hn2z, hn2e⟩ : ∃ n2 : Nat, n2 ≤ o ∧ (n2 = 0 ∨ 0 < i + r + c) ∧ (if 0 < i + r + c then o else 0) = n2 := ⟨_, by split <;> omega, by split <;> omega, rfl⟩
  obtain ⟨os, ds5, hd5, hol, hoo, e5⟩ := lc_shown hd4 (n := n2) (size := i + r + c) (by omega) hn2z (by omega) (I := i) (R := r) (C := c) (O := o) (cs := cs) (s6 := .pu (.int ((i + r : Nat) : Int))) (s7 := .ow false (.li ((pre ++ [c0]).map clD))) (s8 := .ow false (.li (ms.map mcD))) (s11 := .pu (.tuple ((ns.take i).map PyData.str))) (s12 := .pu (.tuple (hs.map hdD))) (s13 := .pu (.int n2)) (s14 := .no) (s15 := s15)
  have hnl : (ns.take i).length = i := by
    have : ns.length = 6 := hns
    rw [List.length_take]; omega
  refine ⟨ds5, ⟨ns.take i, hs, ms, os⟩, hd5, ⟨?_, ?_, ?_⟩, hnl, hhl, hmsl, by show os.length ≤ o; omega, ?_⟩
  · intro x hx
    have := hh x hx
    unfold Mp.size Mp.first
    dsimp only
    rw [hnl, hhl, hmsl]
    exact this
  · unfold Mp.first
    dsimp only
    rw [hnl, hhl]
    exact hm2
  · intro x hx
    have := hoo x hx
    unfold Mp.size Mp.first
    dsimp only
    rw [hnl, hhl, hmsl]
    exact this
  · have hg1 : (cs.map clD).length ≤ 16000000 := by have := hcs.1; rw [List.length_map]; omega
    have hg2 : ((cs.filter fun c => decide (0 < c.pins)).map clD).length + ((cs.filter fun c => decide (c.pins = 0)).map clD).length ≤ 16000000 := by
      have h1 := hcs.1
      have h2 := List.length_filter_le (fun c => decide (0 < c.pins)) cs
      have h3 := List.length_filter_le (fun c => decide (c.pins = 0)) cs
      rw [List.length_map, List.length_map]; omega
    have hg3 : (cs.filter fun c => decide (0 < c.pins)).map clD ++ (cs.filter fun c => decide (c.pins = 0)).map clD = (pre ++ [c0]).map clD := by rw [← List.map_append, hnm]
    have lcA' := lcA i r c o (.ow true (.li ds)) (.pu (.int ((i + r : Nat) : Int))) .no .no
    have lcB' := lcB i r c o (.ow true (.li ds)) (.pu (.int ((i + r : Nat) : Int))) .no .no
    have hrgc := fun ρ => rg1_nat (n := c) (by omega) ρ
    have hrgr := fun ρ => rg1_nat (n := r) (by omega) ρ
    have hrg2 := fun ρ => rg1_nat (n := n2) (by omega) ρ
    have hlr : (rangeD 0 r).length ≤ 16000000 := by rw [rangeD_length]; omega
    have hl2 : (rangeD 0 n2).length ≤ 16000000 := by rw [rangeD_length]; omega
    have hok9 : ∀ (l : List D) (d s6 s7 s8 s10 s11 s12 s13 s14 : Sl), okW [d, .pu (.int i), .pu (.int r), .pu (.int c), .pu (.int o), .pu (.tuple (cs.map clD)), s6, s7, s8, k9, s10, s11, s12, s13, s14, s15, .no] [9] = true := fun l d s6 s7 s8 s10 s11 s12 s13 s14 => by simpa [okW] using q9
    have hs1 : ((i : Nat) : Int) + ((r : Nat) : Int) = ((i + r : Nat) : Int) := by omega
    have hs2 : ((i + r : Nat) : Int) + ((c : Nat) : Int) = ((i + r + c : Nat) : Int) := by omega
    have hcut : cutD (ns.map PyData.str) none (some ((i : Nat) : Int)) = (ns.take i).map PyData.str := by
      rw [cut_to _ (by omega), Int.toNat_natCast, List.map_take]
    have hmany : (0 < ((i + r + c : Nat) : Int) → ((n2 : Nat) : Int) = ((o : Nat) : Int)) ∧ (¬ 0 < ((i + r + c : Nat) : Int) → ((n2 : Nat) : Int) = 0) := by
      rw [← hn2e]
      by_cases q : 0 < i + r + c
      · rw [if_pos q]; exact ⟨fun _ => rfl, fun h => absurd (by omega) h⟩
      · rw [if_neg q]; exact ⟨fun h => absurd h (by omega), fun _ => rfl⟩
    have e3' : g__law_shuffled [.ow true (.li ds2), .pu (.list [.str "a.0", .str "b2.0", .str "b2.1", .str "sum.0", .str "r.0", .str "z9z.0"])] = .ret (.nw (.li (ns.map PyData.str))) [.ow true (.li ds3), .pu (.list [.str "a.0", .str "b2.0", .str "b2.1", .str "sum.0", .str "r.0", .str "z9z.0"])] := e3
    show _ = Fr.ret (.pu (.tuple [.tuple ((ns.take i).map .str), .tuple (hs.map hdD), .tuple (ms.map mcD), .tuple (os.map ouD)])) _
    generalize (cs.filter fun c => decide (0 < c.pins)).map clD = FA at *
    generalize (cs.filter fun c => decide (c.pins = 0)).map clD = FB at *
    generalize (pre ++ [c0]).map clD = NM at *
    generalize ms.map mcD = MM at *
    generalize cs.map clD = CM at *
    generalize (ns.take i).map PyData.str = NT at *
    generalize ns.map PyData.str = NS at *
    generalize hs.map hdD = HS at *
    generalize os.map ouD = OS at *
    generalize rangeD 0 c = RGC at *
    generalize rangeD 0 r = RGR at *
    generalize rangeD 0 n2 = RG2 at *
    generalize ((i + r + c : Nat) : Int) = Z at *
    generalize ((i + r : Nat) : Int) = F at *
    generalize ((n2 : Nat) : Int) = N2 at *
    generalize ((i : Nat) : Int) = I at *
    generalize ((r : Nat) : Int) = R at *
    generalize ((c : Nat) : Int) = C at *
    generalize ((o : Nat) : Int) = O at *
    have h9 := hok9 [] (.ow true (.li ds3)) (.pu (.int F)) (.ow false (.li NM)) (.ow false (.li MM)) (.pu (.int Z)) (.pu (.tuple NT)) .no .no .no
    have h9' := hok9 [] (.ow true (.li ds4)) (.pu (.int F)) (.ow false (.li NM)) (.ow false (.li MM)) (.pu (.int Z)) (.pu (.tuple NT)) (.pu (.tuple HS)) (.pu (.int N2)) .no
    have o15 : okW [.ow true (.li ds), .pu (.int I), .pu (.int R), .pu (.int C), .pu (.int O), .pu (.tuple (cs.map clD)), .pu (.int F), .no, .no, .no, .no, .no, .no, .no, .no, .no, .no] [15] = true := rfl
    have l15 : List.length CM ≤ 16000000 := hg1
    by_cases q : 0 < Z
    · have hN := hmany.1 q
      subst hN
      simp [-rg1_eq, -f_shl, -ap_range3, -List.map_replicate, ap_var, ap_retV, setSl_ok, fnOf_eq, bin1_eq, lc1_eq, okW, loose, wipeR, restR, lcE, wb1, wb2, wb3, wb4, wb5, wb6, wb7, g__law_drawn_mapped, b__law_drawn_mapped, hs1, -okW, o15, h9, h9', l15, lcA', lcB', hg2, hg3, hrgc, e2, hs2, e3', hcut, hrgr, hlr, e4, q, hrg2, hl2, e5]
    · have hN := hmany.2 q
      subst hN
      simp [-rg1_eq, -f_shl, -ap_range3, -List.map_replicate, ap_var, ap_retV, setSl_ok, fnOf_eq, bin1_eq, lc1_eq, okW, loose, wipeR, restR, lcE, wb1, wb2, wb3, wb4, wb5, wb6, wb7, g__law_drawn_mapped, b__law_drawn_mapped, hs1, -okW, o15, h9, h9', l15, lcA', lcB', hg2, hg3, hrgc, e2, hs2, e3', hcut, hrgr, hlr, e4, q, hrg2, hl2, e5]

end K36
namespace K36
open PySem Ow PyProof.Rows
abbrev Bk := List (Int × Int)
def coD (p : Int × Int) : D := .tuple [.int p.1, .int p.2]
def bkT (b : Bk) : D := .tuple (b.map coD)
def bkL (b : Bk) : D := .list (b.map coD)
def bl0 (m : Mp) : List Bk := (List.range m.nms.length).map fun k => [((k : Nat), 1)]
def bkR (n : Nat) (i : Nat) (h : Str × Int × Int) : Bk := [(h.2.2, 0), ((n : Int) + (i : Int), 1)]
def bkC (n : Nat) (i : Nat) (x : Cl × List Int) : Bk := x.2.map (fun s => (s, 0)) ++ [((n : Int) + (i : Int), 1)]
def bkO (i : Nat) (o : Str × Int) : Bk := [(o.2, 0)]
def bl1 (m : Mp) : List Bk := bl0 m ++ m.hs.mapIdx (bkR m.nms.length)
def bl2 (m : Mp) : List Bk := bl1 m ++ m.ms.mapIdx (bkC m.first)
def bls (m : Mp) : List Bk := bl2 m ++ m.os.mapIdx bkO
theorem bl0_len (m : Mp) : (bl0 m).length = m.nms.length := by simp [bl0]
theorem bl1_len (m : Mp) : (bl1 m).length = m.first := by simp [bl1, bl0_len, Mp.first]
theorem bl2_len (m : Mp) : (bl2 m).length = m.size := by simp [bl2, bl1_len, Mp.size]
theorem bls_len (m : Mp) : (bls m).length = m.size + m.os.length := by simp [bls, bl2_len]
theorem forL_idx {α β : Type} {g : D → Rho → Option Rho} {b : Os} (enc : List β → Rho → Prop) : ∀ {ds : List D} {l : List α} (f : Nat → α → β) (n0 : Nat) {s : List β} {ρ : Rho}, ds.length = l.length →
    (∀ (i : Nat) a d s ρ, l[i]? = some a → ds[i]? = some d → s.length = n0 + i → enc s ρ → ∃ ρ1 ρ2, g d ρ = some ρ1 ∧ b ρ1 = .nx ρ2 ∧ enc (s ++ [f i a]) ρ2) → s.length = n0 → enc s ρ → ∃ ρ', forL g b ds ρ = .nx ρ' ∧ enc (s ++ l.mapIdx f) ρ'
  | [], [], f, n0, s, ρ, _, _, _, he => ⟨ρ, rfl, by simpa using he⟩
  | [], _ :: _, _, _, _, _, hl, _, _, _ => by simp at hl
  | _ :: _, [], _, _, _, _, hl, _, _, _ => by simp at hl
  | d :: ds, a :: l, f, n0, s, ρ, hl, h, hs, he => by
    obtain ⟨ρ1, ρ2, h1, h2, h3⟩ := h 0 a d s ρ rfl rfl hs he
    obtain ⟨ρ', e, h4⟩ := forL_idx enc (ds := ds) (l := l) (fun i => f (i + 1)) (n0 + 1) (s := s ++ [f 0 a]) (ρ := ρ2) (by simpa using hl)
      (fun i a' d' s' ρ' q1 q2 q3 q4 => h (i + 1) a' d' s' ρ' (by simpa using q1) (by simpa using q2) (by omega) q4) (by simp [hs]) h3
    refine ⟨ρ', by rw [forL_cons, h1]; dsimp only; rw [h2]; exact e, ?_⟩
    rw [List.mapIdx_cons]
    simpa using h4
theorem range_get {n i : Nat} {d : D} (h : (rangeD 0 n)[i]? = some d) : d = .int (i : Nat) ∧ i < n := by
  rw [rangeD_map, List.getElem?_map] at h
  by_cases q : i < n
  · rw [List.getElem?_range q] at h; cases h; exact ⟨rfl, q⟩
  · rw [List.getElem?_eq_none (by simp; omega)] at h; cases h
theorem enum_get {α : Type} {k : α → D} {l : List α} {i : Nat} {a : α} {d : D} (h : l[i]? = some a) (h2 : (enumD 0 (l.map k))[i]? = some d) : d = .tuple [.int (i : Nat), k a] := by
  have q : (l.map k)[i]? = some (k a) := by rw [List.getElem?_map, h]; rfl
  rw [enumD_get q] at h2
  cases h2
  rw [Nat.zero_add]
theorem map_get {α : Type} {k : α → D} {l : List α} {i : Nat} {a : α} {d : D} (h : l[i]? = some a) (h2 : (l.map k)[i]? = some d) : d = k a := by
  rw [List.getElem?_map, h] at h2
  cases h2
  rfl
theorem enumD_len : ∀ (ds : List D) (n : Nat), (enumD n ds).length = ds.length
  | [], _ => rfl
  | d :: ds, n => by simp [enumD, enumD_len ds]
/-! blocks_of -/
theorem bo_lc0 {MP NM HS MS OS : D} {I : Int} {f b c e g h : Sl} (n : Nat) : lcL [7] (gNm 7) oYes C2_blocks_of (rangeD 0 n) [.pu MP, .pu NM, .pu HS, .pu MS, .pu OS, .pu (.int I), f, .no, b, c, e, g, h] = .ok (((List.range n).map fun k => ([((k : Nat), 1)] : Bk)).map bkT) [.pu MP, .pu NM, .pu HS, .pu MS, .pu OS, .pu (.int I), f, .no, b, c, e, g, h] := by
  rw [rangeD_map, List.map_map]
  exact lcL_map (f := fun k : Nat => bkT [((k : Nat), 1)]) fun k _ => ⟨[.pu MP, .pu NM, .pu HS, .pu MS, .pu OS, .pu (.int I), f, .pu (.int (k : Nat)), b, c, e, g, h], [.pu MP, .pu NM, .pu HS, .pu MS, .pu OS, .pu (.int I), f, .pu (.int (k : Nat)), b, c, e, g, h], by simp [setSl_ok], by simp [-rg1_eq, -f_shl, -ap_range3, -List.map_replicate, ap_var, ap_retV, setSl_ok, fnOf_eq, bin1_eq, lc1_eq, okW, loose, wipeR, restR, lcE, wb1, wb2, wb3, wb4, wb5, wb6, wb7, C2_blocks_of, bkT, coD], by simp [wipeR]⟩
theorem bo_reg {MP NM HS MS OS : D} {n : Nat} {I : Int} (hI : I = (n : Int)) {s : List Bk} (hs : s.length < 16000000) {i : Nat} {x : Str × Int × Int} {a b c e : Sl} (qa : okS (some a) = true) (qb : okS (some b) = true) (qc : okS (some c) = true) (qe : okS (some e) = true) : ∃ ρ1,
    gTp 2 (gCn (gNm 7) (gCn (gTp 3 (gCn (gNm 8) (gCn (gNm 9) (gCn (gNm 10) gNl)))) gNl)) (.tuple [.int (i : Nat), hdD x]) [.pu MP, .pu NM, .pu HS, .pu MS, .pu OS, .pu (.int I), .ow false (.li (s.map bkT)), a, b, c, e, .no, .no] = some ρ1 ∧ L3_blocks_of ρ1 = .nx [.pu MP, .pu NM, .pu HS, .pu MS, .pu OS, .pu (.int I), .ow false (.li ((s ++ [bkR n i x]).map bkT)), .pu (.int (i : Nat)), .pu (.str x.1), .pu (.int x.2.1), .pu (.int x.2.2), .no, .no] := by
  have hl : (s.map bkT).length < 16000000 := by rw [List.length_map]; exact hs
  rw [show (s ++ [bkR n i x]).map bkT = s.map bkT ++ [.tuple [.tuple [.int x.2.2, .int 0], .tuple [.int (I + (i : Nat)), .int 1]]] by rw [List.map_append, hI]; rfl]
  generalize s.map bkT = S at *
  refine ⟨[.pu MP, .pu NM, .pu HS, .pu MS, .pu OS, .pu (.int I), .ow false (.li S), .pu (.int (i : Nat)), .pu (.str x.1), .pu (.int x.2.1), .pu (.int x.2.2), .no, .no], by simp [hdD, setSl_ok, qa, qb, qc, qe], ?_⟩
  generalize ((i : Nat) : Int) = K at *
  simp [-rg1_eq, -f_shl, -ap_range3, -List.map_replicate, ap_var, ap_retV, setSl_ok, fnOf_eq, bin1_eq, lc1_eq, okW, loose, wipeR, restR, lcE, wb1, wb2, wb3, wb4, wb5, wb6, wb7, L3_blocks_of, hl]
theorem bo_lcs {MP NM HS MS OS : D} {I : Int} {f a b c g h : Sl} (ss : List Int) : lcL [10] (gNm 10) oYes C1_blocks_of (ss.map .int) [.pu MP, .pu NM, .pu HS, .pu MS, .pu OS, .pu (.int I), f, a, b, c, .no, g, h] = .ok ((ss.map fun s => ((s, 0) : Int × Int)).map coD) [.pu MP, .pu NM, .pu HS, .pu MS, .pu OS, .pu (.int I), f, a, b, c, .no, g, h] := by
  rw [List.map_map]
  exact lcL_map (f := fun s => coD (s, 0)) fun k _ => ⟨[.pu MP, .pu NM, .pu HS, .pu MS, .pu OS, .pu (.int I), f, a, b, c, .pu (.int k), g, h], [.pu MP, .pu NM, .pu HS, .pu MS, .pu OS, .pu (.int I), f, a, b, c, .pu (.int k), g, h], by simp [setSl_ok], by simp [-rg1_eq, -f_shl, -ap_range3, -List.map_replicate, ap_var, ap_retV, setSl_ok, fnOf_eq, bin1_eq, lc1_eq, okW, loose, wipeR, restR, lcE, wb1, wb2, wb3, wb4, wb5, wb6, wb7, C1_blocks_of, coD], by simp [wipeR]⟩
theorem bo_cell {MP NM HS MS OS : D} {I : Int} {n : Nat} {s : List Bk} {i : Nat} (hs : s.length < 16000000) (hn : s.length = n + i) {x : Cl × List Int} (hx : x.2.length ≤ 1000) {a b c e g h : Sl} (qb : okS (some b) = true) (qg : okS (some g) = true) (qh : okS (some h) = true) (le : loose (some e) = true) : ∃ ρ1,
    gTp 2 (gCn (gNm 8) (gCn (gNm 11) gNl)) (mcD x) [.pu MP, .pu NM, .pu HS, .pu MS, .pu OS, .pu (.int I), .ow false (.li (s.map bkT)), a, b, c, e, g, h] = some ρ1 ∧ L2_blocks_of ρ1 = .nx [.pu MP, .pu NM, .pu HS, .pu MS, .pu OS, .pu (.int I), .ow false (.li ((s ++ [bkC n i x]).map bkT)), a, .pu (.str x.1.nm), c, e, .pu (.tuple (x.2.map .int)), .ow false (.li ((x.2.map fun s => ((s, 0) : Int × Int)).map coD))] := by
  have hl : (s.map bkT).length < 16000000 := by rw [List.length_map]; exact hs
  have hN : ((s.map bkT).length : Int) = (n : Int) + (i : Int) := by rw [List.length_map]; omega
  have hc := fun f a b c g h => bo_lcs (MP := MP) (NM := NM) (HS := HS) (MS := MS) (OS := OS) (I := I) (f := f) (a := a) (b := b) (c := c) (g := g) (h := h) x.2
  have h1 : (x.2.map PyData.int).length ≤ 16000000 := by rw [List.length_map]; omega
  have h2 : ((x.2.map fun s => ((s, 0) : Int × Int)).map coD).length + 1 ≤ 16000000 := by rw [List.length_map, List.length_map]; omega
  rw [show (s ++ [bkC n i x]).map bkT = s.map bkT ++ [.tuple ((x.2.map fun s => ((s, 0) : Int × Int)).map coD ++ [.tuple [.int ((n : Int) + (i : Int)), .int 1]])] by rw [List.map_append]; show _ ++ [bkT _] = _; unfold bkT bkC; rw [List.map_append]; rfl]
  refine ⟨[.pu MP, .pu NM, .pu HS, .pu MS, .pu OS, .pu (.int I), .ow false (.li (s.map bkT)), a, .pu (.str x.1.nm), c, e, .pu (.tuple (x.2.map .int)), h], by simp [mcD, setSl_ok, qb, qg], ?_⟩
  generalize s.map bkT = S at *
  generalize (x.2.map fun s => ((s, 0) : Int × Int)).map coD = SS at *
  generalize x.2.map PyData.int = XX at *
  generalize (n : Int) + (i : Int) = N at *
  have qe := loose_okS le
  have ho : okW [.pu MP, .pu NM, .pu HS, .pu MS, .pu OS, .pu (.int I), .ow false (.li S), a, .pu (.str x.1.nm), c, e, .pu (.tuple XX), h] [10] = true := by simpa [okW] using le
  simp [-rg1_eq, -f_shl, -ap_range3, -List.map_replicate, ap_var, ap_retV, setSl_ok, fnOf_eq, bin1_eq, lc1_eq, okW, loose, wipeR, restR, lcE, wb1, wb2, wb3, wb4, wb5, wb6, wb7, L2_blocks_of, hl, h1, h2, hc, hN, ho, -okW, qe, qh, len1_rf]
theorem bo_out {MP NM HS MS OS : D} {I : Int} {s : List Bk} (hs : s.length < 16000000) {i : Nat} {x : Str × Int} {a b c e g h : Sl} (qb : okS (some b) = true) (qe : okS (some e) = true) : ∃ ρ1,
    gTp 2 (gCn (gNm 8) (gCn (gNm 10) gNl)) (ouD x) [.pu MP, .pu NM, .pu HS, .pu MS, .pu OS, .pu (.int I), .ow false (.li (s.map bkT)), a, b, c, e, g, h] = some ρ1 ∧ L1_blocks_of ρ1 = .nx [.pu MP, .pu NM, .pu HS, .pu MS, .pu OS, .pu (.int I), .ow false (.li ((s ++ [bkO i x]).map bkT)), a, .pu (.str x.1), c, .pu (.int x.2), g, h] := by
  have hl : (s.map bkT).length < 16000000 := by rw [List.length_map]; exact hs
  rw [show (s ++ [bkO i x]).map bkT = s.map bkT ++ [.tuple [.tuple [.int x.2, .int 0]]] by rw [List.map_append]; rfl]
  generalize s.map bkT = S at *
  refine ⟨[.pu MP, .pu NM, .pu HS, .pu MS, .pu OS, .pu (.int I), .ow false (.li S), a, .pu (.str x.1), c, .pu (.int x.2), g, h], by simp [ouD, setSl_ok, qb, qe], ?_⟩
  simp [-rg1_eq, -f_shl, -ap_range3, -List.map_replicate, ap_var, ap_retV, setSl_ok, fnOf_eq, bin1_eq, lc1_eq, okW, loose, wipeR, restR, lcE, wb1, wb2, wb3, wb4, wb5, wb6, wb7, L1_blocks_of, hl]
/-! _law_blocks -/
theorem blocks_of_ok (m : Mp) (h1 : m.nms.length ≤ 1000) (h2 : m.hs.length ≤ 1000) (h3 : m.ms.length ≤ 1000) (h4 : m.os.length ≤ 1000) (h5 : ∀ x ∈ m.ms, x.2.length ≤ 1000) : g_blocks_of [.pu (mpD m)] = .ret (.pu (.tuple ((bls m).map bkT))) [.pu (mpD m)] := by
  obtain ⟨r1, e1, a1, b1, c1, d1, rfl, qa1, qb1, qc1, qd1, l1⟩ := forL_idx (g := gTp 2 (gCn (gNm 7) (gCn (gTp 3 (gCn (gNm 8) (gCn (gNm 9) (gCn (gNm 10) gNl)))) gNl))) (b := L3_blocks_of) (ds := enumD 0 (m.hs.map hdD)) (l := m.hs)
    (fun s ρ => ∃ a b c d, ρ = [.pu (mpD m), .pu (.tuple (m.nms.map .str)), .pu (.tuple (m.hs.map hdD)), .pu (.tuple (m.ms.map mcD)), .pu (.tuple (m.os.map ouD)), .pu (.int ((m.nms.length : Nat) : Int)), .ow false (.li (s.map bkT)), a, b, c, d, .no, .no] ∧ okS (some a) = true ∧ okS (some b) = true ∧ okS (some c) = true ∧ okS (some d) = true ∧ loose (some d) = true)
    (bkR m.nms.length) m.nms.length (s := bl0 m) (ρ := [.pu (mpD m), .pu (.tuple (m.nms.map .str)), .pu (.tuple (m.hs.map hdD)), .pu (.tuple (m.ms.map mcD)), .pu (.tuple (m.os.map ouD)), .pu (.int ((m.nms.length : Nat) : Int)), .ow false (.li ((bl0 m).map bkT)), .no, .no, .no, .no, .no, .no]) (by rw [enumD_len, List.length_map])
    (by
      rintro i x d s ρ hx hd hs ⟨a, b, c, e, rfl, qa, qb, qc, qe, _⟩
      have hi : i < m.hs.length := (List.getElem?_eq_some_iff.mp hx).1
      rw [enum_get hx hd]
      obtain ⟨ρ1, q1, q2⟩ := bo_reg (MP := mpD m) (NM := .tuple (m.nms.map .str)) (HS := .tuple (m.hs.map hdD)) (MS := .tuple (m.ms.map mcD)) (OS := .tuple (m.os.map ouD)) (n := m.nms.length) rfl (s := s) (by omega) (i := i) (x := x) qa qb qc qe
      exact ⟨ρ1, _, q1, q2, _, _, _, _, rfl, rfl, rfl, rfl, rfl, rfl⟩) (bl0_len m) ⟨_, _, _, _, rfl, rfl, rfl, rfl, rfl, rfl⟩
  obtain ⟨r2, e2, b2, f2, h2', rfl, qb2, qf2, qh2⟩ := forL_idx (g := gTp 2 (gCn (gNm 8) (gCn (gNm 11) gNl))) (b := L2_blocks_of) (ds := m.ms.map mcD) (l := m.ms)
    (fun s ρ => ∃ b f h, ρ = [.pu (mpD m), .pu (.tuple (m.nms.map .str)), .pu (.tuple (m.hs.map hdD)), .pu (.tuple (m.ms.map mcD)), .pu (.tuple (m.os.map ouD)), .pu (.int ((m.nms.length : Nat) : Int)), .ow false (.li (s.map bkT)), a1, b, c1, d1, f, h] ∧ okS (some b) = true ∧ okS (some f) = true ∧ okS (some h) = true)
    (bkC m.first) m.first (s := bl1 m) (ρ := [.pu (mpD m), .pu (.tuple (m.nms.map .str)), .pu (.tuple (m.hs.map hdD)), .pu (.tuple (m.ms.map mcD)), .pu (.tuple (m.os.map ouD)), .pu (.int ((m.nms.length : Nat) : Int)), .ow false (.li ((bl1 m).map bkT)), a1, b1, c1, d1, .no, .no]) (by rw [List.length_map])
    (by
      rintro i x d s ρ hx hd hs ⟨b, f, h, rfl, qb, qf, qh⟩
      have hi : i < m.ms.length := (List.getElem?_eq_some_iff.mp hx).1
      rw [map_get hx hd]
      obtain ⟨ρ1, q1, q2⟩ := bo_cell (MP := mpD m) (NM := .tuple (m.nms.map .str)) (HS := .tuple (m.hs.map hdD)) (MS := .tuple (m.ms.map mcD)) (OS := .tuple (m.os.map ouD)) (I := ((m.nms.length : Nat) : Int)) (n := m.first) (s := s) (i := i) (by unfold Mp.first at hs; omega) hs (x := x) (h5 x (List.mem_of_getElem? hx)) (a := a1) (c := c1) qb qf qh l1
      exact ⟨ρ1, _, q1, q2, _, _, _, rfl, rfl, rfl, rfl⟩) (bl1_len m) ⟨_, _, _, rfl, qb1, rfl, rfl⟩
  obtain ⟨r3, e3, b3, d3, rfl, qb3, qd3⟩ := forL_idx (g := gTp 2 (gCn (gNm 8) (gCn (gNm 10) gNl))) (b := L1_blocks_of) (ds := m.os.map ouD) (l := m.os)
    (fun s ρ => ∃ b e, ρ = [.pu (mpD m), .pu (.tuple (m.nms.map .str)), .pu (.tuple (m.hs.map hdD)), .pu (.tuple (m.ms.map mcD)), .pu (.tuple (m.os.map ouD)), .pu (.int ((m.nms.length : Nat) : Int)), .ow false (.li (s.map bkT)), a1, b, c1, e, f2, h2'] ∧ okS (some b) = true ∧ okS (some e) = true)
    bkO m.size (s := bl2 m) (ρ := [.pu (mpD m), .pu (.tuple (m.nms.map .str)), .pu (.tuple (m.hs.map hdD)), .pu (.tuple (m.ms.map mcD)), .pu (.tuple (m.os.map ouD)), .pu (.int ((m.nms.length : Nat) : Int)), .ow false (.li ((bl2 m).map bkT)), a1, b2, c1, d1, f2, h2']) (by rw [List.length_map])
    (by
      rintro i x d s ρ hx hd hs ⟨b, e, rfl, qb, qe⟩
      have hi : i < m.os.length := (List.getElem?_eq_some_iff.mp hx).1
      rw [map_get hx hd]
      obtain ⟨ρ1, q1, q2⟩ := bo_out (MP := mpD m) (NM := .tuple (m.nms.map .str)) (HS := .tuple (m.hs.map hdD)) (MS := .tuple (m.ms.map mcD)) (OS := .tuple (m.os.map ouD)) (I := ((m.nms.length : Nat) : Int)) (s := s) (by unfold Mp.size Mp.first at hs; omega) (i := i) (x := x) (a := a1) (c := c1) (g := f2) (h := h2') qb qe
      exact ⟨ρ1, _, q1, q2, _, _, rfl, rfl, rfl⟩) (bl2_len m) ⟨_, _, rfl, qb2, qd1⟩
  have lc0 := fun f b c e g h => bo_lc0 (MP := mpD m) (NM := .tuple (m.nms.map .str)) (HS := .tuple (m.hs.map hdD)) (MS := .tuple (m.ms.map mcD)) (OS := .tuple (m.os.map ouD)) (I := ((m.nms.length : Nat) : Int)) (f := f) (b := b) (c := c) (e := e) (g := g) (h := h) m.nms.length
  have hrg := fun ρ => rg1_nat (n := m.nms.length) (by omega) ρ
  have hrl : (rangeD 0 m.nms.length).length ≤ 16000000 := by rw [rangeD_length]; omega
  have hl1 : ((m.nms.map PyData.str).length : Int) = ((m.nms.length : Nat) : Int) := by rw [List.length_map]
  show _ = Fr.ret (.pu (.tuple ((bl2 m ++ m.os.mapIdx bkO).map bkT))) _
  have e1' : forL (gTp 2 (gCn (gNm 7) (gCn (gTp 3 (gCn (gNm 8) (gCn (gNm 9) (gCn (gNm 10) gNl)))) gNl))) L3_blocks_of (enumD 0 (m.hs.map hdD)) [.pu (mpD m), .pu (.tuple (m.nms.map .str)), .pu (.tuple (m.hs.map hdD)), .pu (.tuple (m.ms.map mcD)), .pu (.tuple (m.os.map ouD)), .pu (.int ((m.nms.length : Nat) : Int)), .ow false (.li (((List.range m.nms.length).map fun k => ([((k : Nat), 1)] : Bk)).map bkT)), .no, .no, .no, .no, .no, .no] = _ := e1
  have e2' : forL (gTp 2 (gCn (gNm 8) (gCn (gNm 11) gNl))) L2_blocks_of (m.ms.map mcD) [.pu (mpD m), .pu (.tuple (m.nms.map .str)), .pu (.tuple (m.hs.map hdD)), .pu (.tuple (m.ms.map mcD)), .pu (.tuple (m.os.map ouD)), .pu (.int ((m.nms.length : Nat) : Int)), .ow false (.li ((bl0 m ++ m.hs.mapIdx (bkR m.nms.length)).map bkT)), a1, b1, c1, d1, .no, .no] = _ := e2
  have e3' : forL (gTp 2 (gCn (gNm 8) (gCn (gNm 10) gNl))) L1_blocks_of (m.os.map ouD) [.pu (mpD m), .pu (.tuple (m.nms.map .str)), .pu (.tuple (m.hs.map hdD)), .pu (.tuple (m.ms.map mcD)), .pu (.tuple (m.os.map ouD)), .pu (.int ((m.nms.length : Nat) : Int)), .ow false (.li ((bl1 m ++ m.ms.mapIdx (bkC m.first)).map bkT)), a1, b2, c1, d1, f2, h2'] = _ := e3
  have hG : gTp 4 (gCn (gNm 1) (gCn (gNm 2) (gCn (gNm 3) (gCn (gNm 4) gNl)))) (mpD m) [.pu (mpD m), .no, .no, .no, .no, .no, .no, .no, .no, .no, .no, .no, .no] = some [.pu (mpD m), .pu (.tuple (m.nms.map .str)), .pu (.tuple (m.hs.map hdD)), .pu (.tuple (m.ms.map mcD)), .pu (.tuple (m.os.map ouD)), .no, .no, .no, .no, .no, .no, .no, .no] := by simp [mpD, setSl_ok]
  generalize mpD m = MP at *
  generalize (bl2 m ++ m.os.mapIdx bkO).map bkT = B3 at *
  generalize (bl1 m ++ m.ms.mapIdx (bkC m.first)).map bkT = B2 at *
  generalize (bl0 m ++ m.hs.mapIdx (bkR m.nms.length)).map bkT = B1 at *
  generalize ((List.range m.nms.length).map fun k => ([((k : Nat), 1)] : Bk)).map bkT = B0 at *
  generalize rangeD 0 m.nms.length = RG at *
  generalize m.nms.map PyData.str = NM at *
  generalize m.hs.map hdD = HS at *
  generalize m.ms.map mcD = MS at *
  generalize m.os.map ouD = OS at *
  generalize ((m.nms.length : Nat) : Int) = I at *
  simp [-rg1_eq, -f_shl, -ap_range3, -List.map_replicate, ap_var, ap_retV, setSl_ok, fnOf_eq, bin1_eq, lc1_eq, okW, loose, wipeR, restR, lcE, wb1, wb2, wb3, wb4, wb5, wb6, wb7, g_blocks_of, b_blocks_of, hG, hl1, hrg, hrl, lc0, e1', e2', e3']
theorem mx0 (m : Mp) : fIx (mpD m) (.int 0) = some (.pu (.tuple (m.nms.map .str))) := rfl
theorem mx1 (m : Mp) : fIx (mpD m) (.int 1) = some (.pu (.tuple (m.hs.map hdD))) := rfl
theorem mx2 (m : Mp) : fIx (mpD m) (.int 2) = some (.pu (.tuple (m.ms.map mcD))) := rfl
theorem mx3 (m : Mp) : fIx (mpD m) (.int 3) = some (.pu (.tuple (m.os.map ouD))) := rfl
theorem lb_lc0 {MP : D} {I : Int} {f b c e g : Sl} (n : Nat) : lcL [3] (gNm 3) oYes C2__law_blocks (rangeD 0 n) [.pu MP, .pu (.int I), f, .no, b, c, e, g] = .ok (((List.range n).map fun k => ([((k : Nat), 1)] : Bk)).map bkL) [.pu MP, .pu (.int I), f, .no, b, c, e, g] := by
  rw [rangeD_map, List.map_map]
  exact lcL_map (f := fun k : Nat => bkL [((k : Nat), 1)]) fun k _ => ⟨[.pu MP, .pu (.int I), f, .pu (.int (k : Nat)), b, c, e, g], [.pu MP, .pu (.int I), f, .pu (.int (k : Nat)), b, c, e, g], by simp [setSl_ok], by simp [-rg1_eq, -f_shl, -ap_range3, -List.map_replicate, ap_var, ap_retV, setSl_ok, fnOf_eq, bin1_eq, lc1_eq, okW, loose, wipeR, restR, lcE, wb1, wb2, wb3, wb4, wb5, wb6, wb7, C2__law_blocks, bkL, coD], by simp [wipeR]⟩
theorem lb_reg {MP : D} {HS : List D} (hm1 : fIx MP (.int 1) = some (.pu (.tuple HS))) {n : Nat} {I : Int} (hI : I = (n : Int)) {s : List Bk} (hs : s.length < 16000000) {i : Nat} {x : Str × Int × Int} (hx : L2.atI HS (i : Int) = some (hdD x)) {a b c e g : Sl} (qa : okS (some a) = true) : ∃ ρ1,
    gNm 3 (.int (i : Nat)) [.pu MP, .pu (.int I), .ow false (.li (s.map bkL)), a, b, c, e, g] = some ρ1 ∧ L3__law_blocks ρ1 = .nx [.pu MP, .pu (.int I), .ow false (.li ((s ++ [bkR n i x]).map bkL)), .pu (.int (i : Nat)), b, c, e, g] := by
  have hl : (s.map bkL).length < 16000000 := by rw [List.length_map]; exact hs
  have hi : fIx (.tuple HS) (.int (i : Int)) = some (.pu (hdD x)) := by show (L2.atI HS (i : Int)).map Rs.pu = _; rw [hx]; rfl
  have h2 : fIx (hdD x) (.int 2) = some (.pu (.int x.2.2)) := rfl
  rw [show (s ++ [bkR n i x]).map bkL = s.map bkL ++ [.list [.tuple [.int x.2.2, .int 0], .tuple [.int (I + (i : Nat)), .int 1]]] by rw [List.map_append, hI]; rfl]
  generalize s.map bkL = S at *
  refine ⟨[.pu MP, .pu (.int I), .ow false (.li S), .pu (.int (i : Nat)), b, c, e, g], by simp [setSl_ok, qa], ?_⟩
  generalize ((i : Nat) : Int) = K at *
  simp [-rg1_eq, -f_shl, -ap_range3, -List.map_replicate, ap_var, ap_retV, setSl_ok, fnOf_eq, bin1_eq, lc1_eq, okW, loose, wipeR, restR, lcE, wb1, wb2, wb3, wb4, wb5, wb6, wb7, L3__law_blocks, hl, hm1, hi, h2]
theorem lb_lcs {MP : D} {I : Int} {f a b c e : Sl} (ss : List Int) : lcL [7] (gNm 7) oYes C1__law_blocks (ss.map .int) [.pu MP, .pu (.int I), f, a, b, c, e, .no] = .ok ((ss.map fun s => ((s, 0) : Int × Int)).map coD) [.pu MP, .pu (.int I), f, a, b, c, e, .no] := by
  rw [List.map_map]
  exact lcL_map (f := fun s => coD (s, 0)) fun k _ => ⟨[.pu MP, .pu (.int I), f, a, b, c, e, .pu (.int k)], [.pu MP, .pu (.int I), f, a, b, c, e, .pu (.int k)], by simp [setSl_ok], by simp [-rg1_eq, -f_shl, -ap_range3, -List.map_replicate, ap_var, ap_retV, setSl_ok, fnOf_eq, bin1_eq, lc1_eq, okW, loose, wipeR, restR, lcE, wb1, wb2, wb3, wb4, wb5, wb6, wb7, C1__law_blocks, coD], by simp [wipeR]⟩
theorem lb_cell {MP : D} {I : Int} {n : Nat} {s : List Bk} {i : Nat} (hs : s.length < 16000000) (hn : s.length = n + i) {x : Cl × List Int} (hx : x.2.length ≤ 1000) {a b c e g : Sl} (qb : okS (some b) = true) (qc : okS (some c) = true) (lg : loose (some g) = true) : ∃ ρ1,
    gTp 2 (gCn (gNm 4) (gCn (gNm 5) gNl)) (mcD x) [.pu MP, .pu (.int I), .ow false (.li (s.map bkL)), a, b, c, e, g] = some ρ1 ∧ L2__law_blocks ρ1 = .nx [.pu MP, .pu (.int I), .ow false (.li ((s ++ [bkC n i x]).map bkL)), a, .pu (.str x.1.nm), .pu (.tuple (x.2.map .int)), e, g] := by
  have hl : (s.map bkL).length < 16000000 := by rw [List.length_map]; exact hs
  have hN : ((s.map bkL).length : Int) = (n : Int) + (i : Int) := by rw [List.length_map]; omega
  have hc := fun f a b c e => lb_lcs (MP := MP) (I := I) (f := f) (a := a) (b := b) (c := c) (e := e) x.2
  have h1 : (x.2.map PyData.int).length ≤ 16000000 := by rw [List.length_map]; omega
  have h2 : ((x.2.map fun s => ((s, 0) : Int × Int)).map coD).length + 1 ≤ 16000000 := by rw [List.length_map, List.length_map]; omega
  rw [show (s ++ [bkC n i x]).map bkL = s.map bkL ++ [.list ((x.2.map fun s => ((s, 0) : Int × Int)).map coD ++ [.tuple [.int ((n : Int) + (i : Int)), .int 1]])] by rw [List.map_append]; show _ ++ [bkL _] = _; unfold bkL bkC; rw [List.map_append]; rfl]
  refine ⟨[.pu MP, .pu (.int I), .ow false (.li (s.map bkL)), a, .pu (.str x.1.nm), .pu (.tuple (x.2.map .int)), e, g], by simp [mcD, setSl_ok, qb, qc], ?_⟩
  generalize s.map bkL = S at *
  generalize (x.2.map fun s => ((s, 0) : Int × Int)).map coD = SS at *
  generalize x.2.map PyData.int = XX at *
  generalize (n : Int) + (i : Int) = N at *
  have ho : okW [.pu MP, .pu (.int I), .ow false (.li S), a, .pu (.str x.1.nm), .pu (.tuple XX), e, g] [7] = true := by simpa [okW] using lg
  simp [-rg1_eq, -f_shl, -ap_range3, -List.map_replicate, ap_var, ap_retV, setSl_ok, fnOf_eq, bin1_eq, lc1_eq, okW, loose, wipeR, restR, lcE, wb1, wb2, wb3, wb4, wb5, wb6, wb7, L2__law_blocks, hl, h1, h2, hc, hN, ho, -okW, len1_rf]
theorem lb_out {MP : D} {I : Int} {s : List Bk} (hs : s.length < 16000000) {i : Nat} {x : Str × Int} {a b c e g : Sl} (qb : okS (some b) = true) (qe : okS (some e) = true) : ∃ ρ1,
    gTp 2 (gCn (gNm 4) (gCn (gNm 6) gNl)) (ouD x) [.pu MP, .pu (.int I), .ow false (.li (s.map bkL)), a, b, c, e, g] = some ρ1 ∧ L1__law_blocks ρ1 = .nx [.pu MP, .pu (.int I), .ow false (.li ((s ++ [bkO i x]).map bkL)), a, .pu (.str x.1), c, .pu (.int x.2), g] := by
  have hl : (s.map bkL).length < 16000000 := by rw [List.length_map]; exact hs
  rw [show (s ++ [bkO i x]).map bkL = s.map bkL ++ [.list [.tuple [.int x.2, .int 0]]] by rw [List.map_append]; rfl]
  generalize s.map bkL = S at *
  refine ⟨[.pu MP, .pu (.int I), .ow false (.li S), a, .pu (.str x.1), c, .pu (.int x.2), g], by simp [ouD, setSl_ok, qb, qe], ?_⟩
  simp [-rg1_eq, -f_shl, -ap_range3, -List.map_replicate, ap_var, ap_retV, setSl_ok, fnOf_eq, bin1_eq, lc1_eq, okW, loose, wipeR, restR, lcE, wb1, wb2, wb3, wb4, wb5, wb6, wb7, L1__law_blocks, hl]
theorem law_blocks_ok (m : Mp) (h1 : m.nms.length ≤ 1000) (h2 : m.hs.length ≤ 1000) (h3 : m.ms.length ≤ 1000) (h4 : m.os.length ≤ 1000) (h5 : ∀ x ∈ m.ms, x.2.length ≤ 1000) : g__law_blocks [.pu (mpD m)] = .ret (.nw (.li ((bls m).map bkL))) [.pu (mpD m)] := by
  obtain ⟨r1, e1, a1, rfl, qa1⟩ := forL_idx (g := gNm 3) (b := L3__law_blocks) (ds := rangeD 0 m.hs.length) (l := m.hs)
    (fun s ρ => ∃ a, ρ = [.pu (mpD m), .pu (.int ((m.nms.length : Nat) : Int)), .ow false (.li (s.map bkL)), a, .no, .no, .no, .no] ∧ okS (some a) = true)
    (bkR m.nms.length) m.nms.length (s := bl0 m) (ρ := [.pu (mpD m), .pu (.int ((m.nms.length : Nat) : Int)), .ow false (.li ((bl0 m).map bkL)), .no, .no, .no, .no, .no]) (by rw [rangeD_length])
    (by
      rintro i x d s ρ hx hd hs ⟨a, rfl, qa⟩
      have hi : i < m.hs.length := (List.getElem?_eq_some_iff.mp hx).1
      rw [(range_get hd).1]
      obtain ⟨ρ1, q1, q2⟩ := lb_reg (mx1 m) (n := m.nms.length) rfl (s := s) (by omega) (i := i) (x := x) (at_m hdD hx) (b := .no) (c := .no) (e := .no) (g := .no) qa
      exact ⟨ρ1, _, q1, q2, _, rfl, rfl⟩) (bl0_len m) ⟨_, rfl, rfl⟩
  obtain ⟨r2, e2, b2, c2, rfl, qb2, qc2⟩ := forL_idx (g := gTp 2 (gCn (gNm 4) (gCn (gNm 5) gNl))) (b := L2__law_blocks) (ds := m.ms.map mcD) (l := m.ms)
    (fun s ρ => ∃ b c, ρ = [.pu (mpD m), .pu (.int ((m.nms.length : Nat) : Int)), .ow false (.li (s.map bkL)), a1, b, c, .no, .no] ∧ okS (some b) = true ∧ okS (some c) = true)
    (bkC m.first) m.first (s := bl1 m) (ρ := [.pu (mpD m), .pu (.int ((m.nms.length : Nat) : Int)), .ow false (.li ((bl1 m).map bkL)), a1, .no, .no, .no, .no]) (by rw [List.length_map])
    (by
      rintro i x d s ρ hx hd hs ⟨b, c, rfl, qb, qc⟩
      have hi : i < m.ms.length := (List.getElem?_eq_some_iff.mp hx).1
      rw [map_get hx hd]
      obtain ⟨ρ1, q1, q2⟩ := lb_cell (MP := mpD m) (I := ((m.nms.length : Nat) : Int)) (n := m.first) (s := s) (i := i) (by unfold Mp.first at hs; omega) hs (x := x) (h5 x (List.mem_of_getElem? hx)) (a := a1) (e := .no) (g := .no) qb qc rfl
      exact ⟨ρ1, _, q1, q2, _, _, rfl, rfl, rfl⟩) (bl1_len m) ⟨_, _, rfl, rfl, rfl⟩
  obtain ⟨r3, e3, b3, d3, rfl, qb3, qd3⟩ := forL_idx (g := gTp 2 (gCn (gNm 4) (gCn (gNm 6) gNl))) (b := L1__law_blocks) (ds := m.os.map ouD) (l := m.os)
    (fun s ρ => ∃ b e, ρ = [.pu (mpD m), .pu (.int ((m.nms.length : Nat) : Int)), .ow false (.li (s.map bkL)), a1, b, c2, e, .no] ∧ okS (some b) = true ∧ okS (some e) = true)
    bkO m.size (s := bl2 m) (ρ := [.pu (mpD m), .pu (.int ((m.nms.length : Nat) : Int)), .ow false (.li ((bl2 m).map bkL)), a1, b2, c2, .no, .no]) (by rw [List.length_map])
    (by
      rintro i x d s ρ hx hd hs ⟨b, e, rfl, qb, qe⟩
      have hi : i < m.os.length := (List.getElem?_eq_some_iff.mp hx).1
      rw [map_get hx hd]
      obtain ⟨ρ1, q1, q2⟩ := lb_out (MP := mpD m) (I := ((m.nms.length : Nat) : Int)) (s := s) (by unfold Mp.size Mp.first at hs; omega) (i := i) (x := x) (a := a1) (c := c2) (g := .no) qb qe
      exact ⟨ρ1, _, q1, q2, _, _, rfl, rfl, rfl⟩) (bl2_len m) ⟨_, _, rfl, qb2, rfl⟩
  have lc0 := fun f b c e g => lb_lc0 (MP := mpD m) (I := ((m.nms.length : Nat) : Int)) (f := f) (b := b) (c := c) (e := e) (g := g) m.nms.length
  have hrg := fun ρ => rg1_nat (n := m.nms.length) (by omega) ρ
  have hrg2 := fun ρ => rg1_nat (n := m.hs.length) (by omega) ρ
  have hrl : (rangeD 0 m.nms.length).length ≤ 16000000 := by rw [rangeD_length]; omega
  have hl1 : ((m.nms.map PyData.str).length : Int) = ((m.nms.length : Nat) : Int) := by rw [List.length_map]
  have hl2 : ((m.hs.map hdD).length : Int) = ((m.hs.length : Nat) : Int) := by rw [List.length_map]
  have x0 := mx0 m
  have x1 := mx1 m
  have x2 := mx2 m
  have x3 := mx3 m
  show _ = Fr.ret (.nw (.li ((bl2 m ++ m.os.mapIdx bkO).map bkL))) _
  have e1' : forL (gNm 3) L3__law_blocks (rangeD 0 m.hs.length) [.pu (mpD m), .pu (.int ((m.nms.length : Nat) : Int)), .ow false (.li (((List.range m.nms.length).map fun k => ([((k : Nat), 1)] : Bk)).map bkL)), .no, .no, .no, .no, .no] = _ := e1
  have e2' : forL (gTp 2 (gCn (gNm 4) (gCn (gNm 5) gNl))) L2__law_blocks (m.ms.map mcD) [.pu (mpD m), .pu (.int ((m.nms.length : Nat) : Int)), .ow false (.li ((bl0 m ++ m.hs.mapIdx (bkR m.nms.length)).map bkL)), a1, .no, .no, .no, .no] = _ := e2
  have e3' : forL (gTp 2 (gCn (gNm 4) (gCn (gNm 6) gNl))) L1__law_blocks (m.os.map ouD) [.pu (mpD m), .pu (.int ((m.nms.length : Nat) : Int)), .ow false (.li ((bl1 m ++ m.ms.mapIdx (bkC m.first)).map bkL)), a1, b2, c2, .no, .no] = _ := e3
  generalize mpD m = MP at *
  generalize (bl2 m ++ m.os.mapIdx bkO).map bkL = B3 at *
  generalize (bl1 m ++ m.ms.mapIdx (bkC m.first)).map bkL = B2 at *
  generalize (bl0 m ++ m.hs.mapIdx (bkR m.nms.length)).map bkL = B1 at *
  generalize ((List.range m.nms.length).map fun k => ([((k : Nat), 1)] : Bk)).map bkL = B0 at *
  generalize rangeD 0 m.nms.length = RG at *
  generalize rangeD 0 m.hs.length = RG2 at *
  generalize m.nms.map PyData.str = NM at *
  generalize m.hs.map hdD = HS at *
  generalize m.ms.map mcD = MS at *
  generalize m.os.map ouD = OS at *
  generalize ((m.nms.length : Nat) : Int) = I at *
  generalize ((m.hs.length : Nat) : Int) = R at *
  simp [-rg1_eq, -f_shl, -ap_range3, -List.map_replicate, ap_var, ap_retV, setSl_ok, fnOf_eq, bin1_eq, lc1_eq, okW, loose, wipeR, restR, lcE, wb1, wb2, wb3, wb4, wb5, wb6, wb7, g__law_blocks, b__law_blocks, x0, x1, x2, x3, hl1, hl2, hrg, hrg2, hrl, lc0, e1', e2', e3']

end K36
namespace K36
open PySem Ow PyProof.Rows
/-! lists of whole numbers, and deeper, compared -/
theorem eqvI : ∀ xs ys : List Int, PyData.eqvAll (xs.map .int) (ys.map .int) = decide (xs = ys)
  | [], [] => rfl
  | [], _ :: _ => rfl
  | _ :: _, [] => rfl
  | x :: xs, y :: ys => by
    show (PyData.eqv (.int x) (.int y) && PyData.eqvAll (xs.map .int) (ys.map .int)) = _
    rw [eqvI xs ys]
    show ((x == y) && decide (xs = ys)) = _
    by_cases h1 : x = y <;> by_cases h2 : xs = ys <;> simp [h1, h2]
inductive DeepI : Nat → D → Prop
  | int (n : Nat) (i : Int) : DeepI n (.int i)
  | tup {n : Nat} {ds : List D} : (∀ d ∈ ds, DeepI n d) → DeepI (n + 1) (.tuple ds)
  | lst {n : Nat} {ds : List D} : (∀ d ∈ ds, DeepI n d) → DeepI (n + 1) (.list ds)
theorem lay_all : ∀ {ds : List D}, (∀ d ∈ ds, d.canLay0 = true) → PyData.canLayAll0 ds = true
  | [], _ => rfl
  | d :: ds, h => by
    show (d.canLay0 && PyData.canLayAll0 ds) = true
    rw [h d List.mem_cons_self, lay_all fun e he => h e (List.mem_cons_of_mem _ he)]; rfl
theorem depth_all {n : Nat} : ∀ {ds : List D}, (∀ d ∈ ds, d.depth ≤ n) → PyData.depthAll ds ≤ n
  | [], _ => Nat.zero_le _
  | d :: ds, h => by
    show max d.depth (PyData.depthAll ds) ≤ n
    exact Nat.max_le.mpr ⟨h d List.mem_cons_self, depth_all fun e he => h e (List.mem_cons_of_mem _ he)⟩
theorem eqv_all : ∀ {ds : List D}, (∀ d ∈ ds, PyData.eqv d d = true) → PyData.eqvAll ds ds = true
  | [], _ => rfl
  | d :: ds, h => by
    show (PyData.eqv d d && PyData.eqvAll ds ds) = true
    rw [h d List.mem_cons_self, eqv_all fun e he => h e (List.mem_cons_of_mem _ he)]; rfl
theorem DeepI.facts {n : Nat} {d : D} (h : DeepI n d) : d.canLay0 = true ∧ d.depth ≤ n ∧ PyData.eqv d d = true := by
  induction h with
  | int n i => exact ⟨rfl, Nat.zero_le _, by simp [PyData.eqv]⟩
  | tup h ih => exact ⟨lay_all fun d hd => (ih d hd).1, by show PyData.depthAll _ + 1 ≤ _; exact Nat.succ_le_succ (depth_all fun d hd => (ih d hd).2.1), by show PyData.eqvAll _ _ = true; exact eqv_all fun d hd => (ih d hd).2.2⟩
  | lst h ih => exact ⟨lay_all fun d hd => (ih d hd).1, by show PyData.depthAll _ + 1 ≤ _; exact Nat.succ_le_succ (depth_all fun d hd => (ih d hd).2.1), by show PyData.eqvAll _ _ = true; exact eqv_all fun d hd => (ih d hd).2.2⟩
theorem DeepI.shaped {n : Nat} {d : D} (h : DeepI n d) (hn : n ≤ 64) : SeqAt.shaped d = true := by
  unfold SeqAt.shaped
  rw [h.facts.1, decide_eq_true (Nat.le_trans h.facts.2.1 hn)]
  rfl
theorem deep_ints (xs : List Int) : DeepI 1 (.list (xs.map .int)) ∧ DeepI 1 (.tuple (xs.map .int)) :=
  ⟨.lst fun d hd => by obtain ⟨x, _, rfl⟩ := List.mem_map.mp hd; exact .int _ _, .tup fun d hd => by obtain ⟨x, _, rfl⟩ := List.mem_map.mp hd; exact .int _ _⟩
theorem neL (xs ys : List Int) : fNe (.list (xs.map .int)) (.list (ys.map .int)) = some (.pu (.bool (!decide (xs = ys)))) := by
  unfold fNe
  rw [if_pos ⟨(deep_ints xs).1.shaped (by decide), (deep_ints ys).1.shaped (by decide)⟩]
  show some (Rs.pu (.bool (!PyData.eqvAll (xs.map .int) (ys.map .int)))) = _
  rw [eqvI]
theorem eqL (xs ys : List Int) : fEq (.list (xs.map .int)) (.list (ys.map .int)) = some (.pu (.bool (decide (xs = ys)))) := by
  unfold fEq
  rw [if_pos ⟨(deep_ints xs).1.shaped (by decide), (deep_ints ys).1.shaped (by decide)⟩]
  show some (Rs.pu (.bool (PyData.eqvAll (xs.map .int) (ys.map .int)))) = _
  rw [eqvI]
theorem neSame {n : Nat} {d : D} (h : DeepI n d) (hn : n ≤ 64) : fNe d d = some (.pu (.bool false)) := by
  unfold fNe
  rw [if_pos ⟨h.shaped hn, h.shaped hn⟩, h.facts.2.2]
  rfl
theorem eqSame {n : Nat} {d : D} (h : DeepI n d) (hn : n ≤ 64) : fEq d d = some (.pu (.bool true)) := by
  unfold fEq
  rw [if_pos ⟨h.shaped hn, h.shaped hn⟩, h.facts.2.2]
theorem neInt (i j : Int) : fNe (.int i) (.int j) = some (.pu (.bool (!decide (i = j)))) := by
  unfold fNe
  rw [if_pos ⟨rfl, rfl⟩]
  show some (Rs.pu (.bool (!(i == j)))) = _
  by_cases h : i = j <;> simp [h]
theorem neBool (a b : Bool) : fNe (.bool a) (.bool b) = some (.pu (.bool (!decide (a = b)))) := by
  unfold fNe
  rw [if_pos ⟨rfl, rfl⟩]
  cases a <;> cases b <;> rfl
theorem fSum_i (ns : List Int) : fSum [.list (ns.map .int)] = some (.pu (.int ns.sum)) := by
  show (intsOf (ns.map .int)).map _ = _
  rw [intsOf_map]; rfl
theorem fSorted_i (ns : List Int) : fSorted [.list (ns.map .int)] = some (.nw (.li ((sortI ns).map .int))) := by
  show (intsOf (ns.map .int)).map _ = _
  rw [intsOf_map]; rfl
def rgI (n : Nat) : List Int := (List.range n).map fun k => ((k : Nat) : Int)
theorem rgI_map (n : Nat) : rangeD 0 n = (rgI n).map .int := by rw [rangeD_map, rgI, List.map_map]; rfl
/-- sorted gives the range exactly for its rearrangements -/
theorem sortI_perm (ns : List Int) : (sortI ns).Perm ns := List.mergeSort_perm _ _
theorem sortI_sorted (ns : List Int) : (sortI ns).Pairwise (fun a b => decide (a ≤ b) = true) := List.pairwise_mergeSort (by intro a b c h1 h2; simp at *; omega) (by intro a b; simp; omega) ns
theorem sortI_rg {ns : List Int} {n : Nat} (h : ns.Perm (rgI n)) : sortI ns = rgI n := by
  have h1 : (sortI ns).Perm (rgI n) := (sortI_perm ns).trans h
  have h2 : (rgI n).Pairwise (fun a b => decide (a ≤ b) = true) := by
    unfold rgI
    rw [List.pairwise_map]
    refine List.pairwise_lt_range.imp fun {a b} hab => ?_
    simp; omega
  exact h1.eq_of_pairwise (by intro a b _ _ x y; simp at x y; omega) (sortI_sorted ns) h2
theorem mem_rgI {n : Nat} {x : Int} : x ∈ rgI n ↔ 0 ≤ x ∧ x < n := by
  unfold rgI
  simp only [List.mem_map, List.mem_range]
  constructor
  · rintro ⟨k, hk, rfl⟩; omega
  · intro ⟨h1, h2⟩; exact ⟨x.toNat, by omega, by omega⟩
theorem rgI_len (n : Nat) : (rgI n).length = n := by simp [rgI]

/-! placements -/
def arD (r : List Int) : D := .tuple (r.map .int)
def plD (P : List (List Int)) : D := .tuple (P.map arD)
def wd (B : List Bk) (b : Int) : Int := (((B.getD b.toNat []).length : Nat) : Int)
def rowW (B : List Bk) (r : List Int) : Int := (r.map (wd B)).sum
def isPl (B : List Bk) (a c : Int) (P : List (List Int)) : Bool := decide ((P.length : Int) = a) && (decide (sortI P.flatten = rgI B.length) && (P.map fun r => decide (rowW B r ≤ c)).all id)
theorem bk_at (f : Bk → D) {B : List Bk} {b : Int} (h0 : 0 ≤ b) (h1 : b < B.length) : L2.atI (B.map f) b = some (f (B.getD b.toNat [])) := by
  refine at_mi f h0 ?_
  rw [List.getD_eq_getElem?_getD, List.getElem?_eq_getElem (by omega)]
  rfl
theorem inRg {P : List (List Int)} {n : Nat} (h : sortI P.flatten = rgI n) : ∀ r ∈ P, ∀ b ∈ r, 0 ≤ b ∧ b < (n : Int) := fun r hr b hb => by
  have h1 : b ∈ P.flatten := List.mem_flatten.mpr ⟨r, hr, hb⟩
  have h2 : b ∈ sortI P.flatten := (sortI_perm _).mem_iff.mpr h1
  rw [h] at h2
  exact mem_rgI.mp h2

end K36
namespace K36
open PySem Ow PyProof.Rows
/-! the drawn placement -/
abbrev ixs (r : List Int) : List D := r.map .int
theorem flat_app {Q : List (List Int)} {j : Nat} {xs : List Int} (b : Int) (h : Q[j]? = some xs) : ((Q.set j (xs ++ [b])).flatten).Perm (b :: Q.flatten) := by
  induction Q generalizing j with
  | nil => simp at h
  | cons r Q ih =>
    cases j with
    | zero =>
      simp at h
      subst h
      rw [List.set_cons_zero, List.flatten_cons, List.flatten_cons, List.append_assoc]
      exact List.perm_middle
    | succ j =>
      have h' : Q[j]? = some xs := by simpa using h
      rw [List.set_cons_succ, List.flatten_cons, List.flatten_cons]
      exact ((ih h').append_left r).trans List.perm_middle
theorem row_le {Q : List (List Int)} {r : List Int} (h : r ∈ Q) : r.length ≤ Q.flatten.length := by
  induction Q with
  | nil => cases h
  | cons x Q ih =>
    rw [List.flatten_cons, List.length_append]
    rcases List.mem_cons.mp h with rfl | h
    · omega
    · have := ih h; omega
theorem dp_new {MP : D} {I : Int} {d : Sl} (n : Nat) : lcL [5] (gNm 5) oYes (oNewL C2__law_drawn_placement) (rangeD 0 n) [d, .pu (.int I), .pu MP, .no, .no, .no, .no] = .ok (((List.range n).map fun _ => ixs []).map PyData.list) [d, .pu (.int I), .pu MP, .no, .no, .no, .no] := by
  rw [rangeD_map, List.map_map]
  exact lcL_map (f := fun _ : Nat => PyData.list []) fun k _ => ⟨[d, .pu (.int I), .pu MP, .no, .no, .pu (.int (k : Nat)), .no], [d, .pu (.int I), .pu MP, .no, .no, .pu (.int (k : Nat)), .no], by simp [setSl_ok], by simp [-rg1_eq, -f_shl, -ap_range3, -List.map_replicate, ap_var, ap_retV, setSl_ok, fnOf_eq, bin1_eq, lc1_eq, okW, loose, wipeR, restR, lcE, wb1, wb2, wb3, wb4, wb5, wb6, wb7, C2__law_drawn_placement], by simp [wipeR]⟩
theorem ixN_nat {n j : Nat} (h : j < n) : L2.ixN n (j : Int) = some j := by
  unfold L2.ixN
  rw [if_pos (by omega), if_pos (by omega), Int.toNat_natCast]
theorem dp_step {ds : List D} (h : DOK ds) {MP : D} {n : Nat} (hn : 0 < n) (hn2 : n ≤ 1000) {Q : List (List Int)} (hQ : Q.length = n) (hf : Q.flatten.length ≤ 1000000) (b : Int) {k4 : Sl} (q4 : okS (some k4) = true) : ∃ (ds' : List D) (j : Nat) (xs : List Int), DOK ds' ∧ Q[j]? = some xs ∧
    gNm 4 (.int b) [.ow true (.li ds), .pu (.int n), .pu MP, .ll (.li (Q.map ixs)), k4, .no, .no] = some [.ow true (.li ds), .pu (.int n), .pu MP, .ll (.li (Q.map ixs)), .pu (.int b), .no, .no] ∧
    L1__law_drawn_placement [.ow true (.li ds), .pu (.int n), .pu MP, .ll (.li (Q.map ixs)), .pu (.int b), .no, .no] = .nx [.ow true (.li ds'), .pu (.int n), .pu MP, .ll (.li ((Q.set j (xs ++ [b])).map ixs)), .pu (.int b), .no, .no] := by
  obtain ⟨r, ds', hd', r0, r1, e⟩ := draw h (m := (n : Int)) (by omega) (by omega)
  obtain ⟨j, rfl⟩ : ∃ j : Nat, r = (j : Int) := ⟨r.toNat, by omega⟩
  have hj : j < Q.length := by omega
  have hx : Q[j]? = some (Q[j]'hj) := List.getElem?_eq_getElem hj
  generalize Q[j]'hj = xs at hx
  have hi := ixN_nat (n := n) (j := j) (by omega)
  have hl : (Q.map ixs).length = n := by rw [List.length_map]; exact hQ
  have hm : (Q.map ixs)[j]? = some (ixs xs) := by rw [List.getElem?_map, hx]; rfl
  have hxl : (ixs xs).length < 16000000 := by rw [List.length_map]; have := row_le (List.mem_of_getElem? hx); omega
  refine ⟨ds', j, xs, hd', hx, by simp [setSl_ok, q4], ?_⟩
  have hs : (Q.set j (xs ++ [b])).map ixs = (Q.map ixs).set j (ixs xs ++ [.int b]) := by rw [List.map_set]; show _ = _; rw [show ixs (xs ++ [b]) = ixs xs ++ [.int b] from List.map_append]
  rw [hs]
  clear hs
  generalize Q.map ixs = QD at *
  generalize ixs xs = XD at *
  generalize ((j : Nat) : Int) = J at *
  generalize ((n : Nat) : Int) = N at *
  subst hl
  simp [-rg1_eq, -f_shl, -ap_range3, -List.map_replicate, ap_var, ap_retV, setSl_ok, fnOf_eq, bin1_eq, lc1_eq, okW, loose, wipeR, restR, lcE, wb1, wb2, wb3, wb4, wb5, wb6, wb7, L1__law_drawn_placement, e, hi, hm, hxl]
theorem ints_of_perm {ys : List D} {ns : List Int} (h : ys.Perm (ns.map .int)) : ∃ ms : List Int, ys = ms.map .int ∧ ms.Perm ns := by
  have h1 : ∀ y ∈ ys, ∃ x : Int, y = .int x ∧ True := fun y hy => by
    have := h.mem_iff.mp hy
    obtain ⟨x, _, rfl⟩ := List.mem_map.mp this
    exact ⟨x, rfl, trivial⟩
  obtain ⟨ms, rfl, _⟩ := ex_map (f := PyData.int) h1
  refine ⟨ms, rfl, ?_⟩
  have := h.map (fun d : D => match d with | .int i => i | _ => 0)
  simpa [List.map_map, Function.comp_def] using this
theorem drawn_pl {ds : List D} (h : DOK ds) {m : Mp} {LB : List D} (hb : g__law_blocks [.pu (mpD m)] = .ret (.nw (.li LB)) [.pu (mpD m)]) (hB : LB.length ≤ 10000) {n : Nat} (hn : 0 < n) (hn2 : n ≤ 1000) : ∃ (ds' : List D) (P : List (List Int)), DOK ds' ∧ P.length = n ∧ P.flatten.Perm (rgI LB.length) ∧
    g__law_drawn_placement [.ow true (.li ds), .pu (.int n), .pu (mpD m)] = .ret (.pu (plD P)) [.ow true (.li ds'), .pu (.int n), .pu (mpD m)] := by
  obtain ⟨ys, ds1, hd1, hp, es⟩ := shuffled h (xs := (rgI LB.length).map .int) (by rw [List.length_map, rgI_len]; omega)
  obtain ⟨ms, rfl, hpm⟩ := ints_of_perm hp
  obtain ⟨ρ', e2, ds2, Q, rest, k4, rfl, hd2, hQ, hpq, hrest, q4⟩ := forL_inv (g := gNm 4) (b := L1__law_drawn_placement)
    (fun l ρ => ∃ (ds : List D) (Q : List (List Int)) (rest : List Int) (k4 : Sl), ρ = [.ow true (.li ds), .pu (.int n), .pu (mpD m), .ll (.li (Q.map ixs)), k4, .no, .no] ∧ DOK ds ∧ Q.length = n ∧ (Q.flatten ++ rest).Perm (rgI LB.length) ∧ l = rest.map PyData.int ∧ loose (some k4) = true)
    (ds := ms.map .int) (ρ := [.ow true (.li ds1), .pu (.int n), .pu (mpD m), .ll (.li (((List.range n).map fun _ => ([] : List Int)).map ixs)), .no, .no, .no]) (by
      rintro d l ρ _ ⟨ds, Q, rest, k4, rfl, hd, hQ, hp, hl, q4⟩
      cases rest with
      | nil => cases hl
      | cons b rest =>
        rw [List.map_cons] at hl
        cases hl
        have hlen := hp.length_eq
        rw [rgI_len, List.length_append] at hlen
        obtain ⟨ds', j, xs, hd', hx, e1, e2⟩ := dp_step hd (MP := mpD m) hn hn2 hQ (by omega) b (loose_okS q4)
        refine ⟨_, _, e1, .inl e2, ds', _, rest, _, rfl, hd', by rw [List.length_set]; exact hQ, ?_, rfl, rfl⟩
        refine List.Perm.trans ?_ hp
        exact ((flat_app b hx).append_right rest).trans List.perm_middle.symm) ⟨ds1, _, ms, _, rfl, hd1, by simp, by
          have : ((List.range n).map fun _ => ([] : List Int)).flatten = [] := by
            induction n with
            | zero => rfl
            | succ k ih => simp
          rw [this]; exact hpm, rfl, rfl⟩
  have hr0 : rest = [] := by cases rest with
    | nil => rfl
    | cons _ _ => cases hrest
  subst hr0
  rw [List.append_nil] at hpq
  refine ⟨ds2, Q, hd2, hQ, hpq, ?_⟩
  have e1 := fun d => dp_new (MP := mpD m) (I := (n : Int)) (d := d) n
  have hrg := fun ρ => rg1_nat (n := n) (by omega) ρ
  have hrl : (rangeD 0 n).length ≤ 16000000 := by rw [rangeD_length]; omega
  have hlr := fun ρ => lrg1_nat (n := LB.length) (by omega) (ρ := ρ)
  rw [rgI_map] at hlr
  have e3 : ∀ (d i mp s3 s4 : Sl), lcL [6] (gNm 6) oYes C1__law_drawn_placement ((Q.map ixs).map PyData.list) [d, i, mp, s3, s4, .no, .no] = .ok (Q.map arD) [d, i, mp, s3, s4, .no, .no] := fun d i mp s3 s4 => by
    rw [List.map_map]
    refine lcL_map (f := arD) fun r _ => ⟨[d, i, mp, s3, s4, .no, .pu (.list (ixs r))], [d, i, mp, s3, s4, .no, .pu (.list (ixs r))], by simp [setSl_ok], ?_, by simp [wipeR]⟩
    have ha : arD r = .tuple (ixs r) := rfl
    rw [ha]
    simp [-rg1_eq, -f_shl, -ap_range3, -List.map_replicate, ap_var, ap_retV, setSl_ok, fnOf_eq, bin1_eq, lc1_eq, okW, loose, wipeR, restR, lcE, wb1, wb2, wb3, wb4, wb5, wb6, wb7, C1__law_drawn_placement]
  have hQl : (Q.map ixs).length ≤ 16000000 := by rw [List.length_map]; omega
  have hnl : ∀ (i mp s : D) (ds : Ct), noLL [.ow true ds, .pu i, .pu mp, .no, .no, .no, .no] = true := fun _ _ _ _ => rfl
  show _ = Fr.ret (.pu (.tuple (Q.map arD))) _
  generalize mpD m = MP at *
  generalize Q.map arD = QA at *
  generalize Q.map ixs = QD at *
  generalize hx0 : ((List.range n).map fun _ => ixs []) = X0 at *
  have hx1 : ((List.range n).map fun _ => ([] : List Int)).map ixs = X0 := by rw [← hx0, List.map_map]; rfl
  rw [hx1] at e2
  generalize rangeD 0 n = RG at *
  generalize (rgI LB.length).map PyData.int = RB at *
  generalize ms.map PyData.int = MS at *
  generalize ((n : Nat) : Int) = N at *
  have hlB : ((LB.length : Nat) : Int) = ((LB.length : Nat) : Int) := rfl
  cases k4 with
  | no => simp [-rg1_eq, -f_shl, -ap_range3, -List.map_replicate, ap_var, ap_retV, setSl_ok, fnOf_eq, bin1_eq, lc1_eq, okW, loose, wipeR, restR, lcE, wb1, wb2, wb3, wb4, wb5, wb6, wb7, g__law_drawn_placement, b__law_drawn_placement, hb, hrg, hrl, mkLL1_eq, e1, hlr, es, e2, e3, hQl, -lrg1_eq]
  | pu d4 => simp [-rg1_eq, -f_shl, -ap_range3, -List.map_replicate, ap_var, ap_retV, setSl_ok, fnOf_eq, bin1_eq, lc1_eq, okW, loose, wipeR, restR, lcE, wb1, wb2, wb3, wb4, wb5, wb6, wb7, g__law_drawn_placement, b__law_drawn_placement, hb, hrg, hrl, mkLL1_eq, e1, hlr, es, e2, e3, hQl, -lrg1_eq]
  | _ => cases q4

end K36
namespace K36
open PySem Ow PyProof.Rows
/-! pins of placed blocks -/
abbrev Pn := Int × Int × Int × Int
def bp (b : Bk) (r c : Int) : List Pn := match b with
  | [] => []
  | x :: b => (x.1, x.2, r, c) :: bp b r (c + 1)
def placeRow (B : List Bk) (r : Int) : Int → List Int → List (Int × Int × Int)
  | _, [] => []
  | c, b :: l => (b, r, c) :: placeRow B r (c + wd B b) l
def placeL (B : List Bk) : Int → List (List Int) → List (Int × Int × Int)
  | _, [] => []
  | r, l :: P => placeRow B r 0 l ++ placeL B (r + 1) P
theorem placeRow_fst (B : List Bk) (r : Int) : ∀ (l : List Int) (c : Int), (placeRow B r c l).map (·.1) = l
  | [], _ => rfl
  | b :: l, c => by show b :: (placeRow B r _ l).map (·.1) = _; rw [placeRow_fst B r l]
theorem placeL_fst (B : List Bk) : ∀ (P : List (List Int)) (r : Int), (placeL B r P).map (·.1) = P.flatten
  | [], _ => rfl
  | l :: P, r => by show (placeRow B r 0 l ++ placeL B (r + 1) P).map (·.1) = _; rw [List.map_append, placeRow_fst, placeL_fst B P, List.flatten_cons]
/-- where a block stands -/
def lk3 (T : List (Int × Int × Int)) (b : Int) : Int × Int := match T with
  | [] => (0, 0)
  | t :: T => if t.1 = b then t.2 else lk3 T b
theorem lk3_mem {t : Int × Int × Int} : ∀ {T : List (Int × Int × Int)}, (T.map (·.1)).Nodup → t ∈ T → lk3 T t.1 = t.2
  | [], _, h => by simp at h
  | u :: T, hn, h => by
    rw [List.map_cons, List.nodup_cons] at hn
    unfold lk3
    rcases List.mem_cons.mp h with rfl | h
    · rw [if_pos rfl]
    · have : u.1 ≠ t.1 := fun e => hn.1 (by rw [e]; exact List.mem_map.mpr ⟨t, h, rfl⟩)
      rw [if_neg this]
      exact lk3_mem hn.2 h
def pinsB (B : List Bk) (P : List (List Int)) : List Pn := (placeL B 0 P).flatMap fun t => bp (B.getD t.1.toNat []) t.2.1 t.2.2
def pinOf (B : List Bk) (P : List (List Int)) (b : Int) : List Pn := bp (B.getD b.toNat []) (lk3 (placeL B 0 P) b).1 (lk3 (placeL B 0 P) b).2
def pinsA (B : List Bk) (P : List (List Int)) (ks : List Int) : List Pn := ks.flatMap (pinOf B P)
theorem flatMap_congr' {α β : Type} {f g : α → List β} : ∀ {l : List α}, (∀ x ∈ l, f x = g x) → l.flatMap f = l.flatMap g
  | [], _ => rfl
  | a :: l, h => by rw [List.flatMap_cons, List.flatMap_cons, h a List.mem_cons_self, flatMap_congr' fun x hx => h x (List.mem_cons_of_mem _ hx)]
theorem pinsB_eq {B : List Bk} {P : List (List Int)} (h : P.flatten.Nodup) : pinsB B P = P.flatten.flatMap (pinOf B P) := by
  have h0 : ((placeL B 0 P).map (·.1)).Nodup := by rw [placeL_fst]; exact h
  have : P.flatten = (placeL B 0 P).map (·.1) := (placeL_fst B P 0).symm
  conv => rhs; rw [this]
  rw [List.flatMap_map]
  unfold pinsB
  refine flatMap_congr' fun t ht => ?_
  unfold pinOf
  rw [lk3_mem h0 ht]
theorem pins_perm {B : List Bk} {P : List (List Int)} {ks : List Int} (h : P.flatten.Perm ks) (hn : ks.Nodup) : (pinsA B P ks).Perm (pinsB B P) := by
  rw [pinsB_eq (h.nodup_iff.mpr hn)]
  exact (List.Perm.flatMap_right _ h).symm
/-! first occurrences -/
def foS (acc : List Int) (x : Int) : List Int := if x ∈ acc then acc else acc ++ [x]
def fo (l : List Int) : List Int := l.foldl foS []
theorem fo_snoc (l : List Int) (x : Int) : fo (l ++ [x]) = foS (fo l) x := by unfold fo; rw [List.foldl_append]; rfl
theorem foS_nodup {acc : List Int} (x : Int) (h : acc.Nodup) : (foS acc x).Nodup := by
  unfold foS
  split
  · exact h
  · rename_i q
    rw [List.nodup_append]
    refine ⟨h, by simp, ?_⟩
    intro a ha b hb e
    simp at hb
    subst hb e
    exact q ha
theorem foS_mem {acc : List Int} {x k : Int} : k ∈ foS acc x ↔ k ∈ acc ∨ k = x := by
  unfold foS
  split
  · rename_i q
    exact ⟨.inl, fun h => h.elim id fun e => e ▸ q⟩
  · simp
theorem fo_both : ∀ (l : List Int) (acc : List Int), acc.Nodup → (l.foldl foS acc).Nodup ∧ ∀ k, k ∈ l.foldl foS acc ↔ k ∈ acc ∨ k ∈ l
  | [], acc, h => ⟨h, by simp⟩
  | x :: l, acc, h => by
    obtain ⟨h1, h2⟩ := fo_both l (foS acc x) (foS_nodup x h)
    refine ⟨h1, fun k => ?_⟩
    rw [List.foldl_cons, h2, foS_mem, List.mem_cons, or_assoc]
theorem fo_nodup (l : List Int) : (fo l).Nodup := (fo_both l [] .nil).1
theorem fo_mem {l : List Int} {k : Int} : k ∈ fo l ↔ k ∈ l := by rw [fo, (fo_both l [] .nil).2]; simp
/-! sorts of pins -/
def mine (Q : List Pn) (s : Int) : List Pn := Q.filter fun p => decide (p.1 = s)
def rowsOf (Q : List Pn) (s : Int) : List Int := (mine Q s).map (·.2.2.1)
def colsOf (Q : List Pn) (s r : Int) : List Int := ((mine Q s).filter fun p => decide (p.2.2.1 = r)).map (·.2.2.2)
def sgs (Q : List Pn) : List Int := Q.map (·.1)
theorem mine_snoc (Q : List Pn) (p : Pn) (s : Int) : mine (Q ++ [p]) s = if p.1 = s then mine Q s ++ [p] else mine Q s := by
  unfold mine
  rw [List.filter_append]
  by_cases h : p.1 = s <;> simp [h]
theorem colsOf_snoc (Q : List Pn) (p : Pn) (s r : Int) : colsOf (Q ++ [p]) s r = if p.1 = s ∧ p.2.2.1 = r then colsOf Q s r ++ [p.2.2.2] else colsOf Q s r := by
  unfold colsOf
  rw [mine_snoc]
  by_cases h : p.1 = s
  · by_cases h2 : p.2.2.1 = r
    · rw [if_pos h, if_pos ⟨h, h2⟩, List.filter_append]; simp [h2]
    · rw [if_pos h, if_neg (fun q => h2 q.2), List.filter_append]; simp [h2]
  · rw [if_neg h, if_neg (fun q => h q.1)]
theorem rowsOf_snoc (Q : List Pn) (p : Pn) (s : Int) : rowsOf (Q ++ [p]) s = if p.1 = s then rowsOf Q s ++ [p.2.2.1] else rowsOf Q s := by
  unfold rowsOf
  rw [mine_snoc]
  by_cases h : p.1 = s <;> simp [h]
theorem mem_sgs {Q : List Pn} {s : Int} : s ∈ sgs Q ↔ mine Q s ≠ [] := by
  unfold sgs mine
  rw [List.mem_map]
  constructor
  · rintro ⟨p, hp, rfl⟩ e
    have := List.filter_eq_nil_iff.mp e p hp
    simp at this
  · intro h
    obtain ⟨p, hp⟩ := List.exists_mem_of_ne_nil _ h
    rw [List.mem_filter] at hp
    exact ⟨p, hp.1, by simpa using hp.2⟩
theorem mem_rowsOf {Q : List Pn} {s r : Int} : r ∈ rowsOf Q s ↔ colsOf Q s r ≠ [] := by
  unfold rowsOf colsOf
  rw [List.mem_map]
  constructor
  · rintro ⟨p, hp, rfl⟩ e
    rw [List.map_eq_nil_iff] at e
    have := List.filter_eq_nil_iff.mp e p hp
    simp at this
  · intro h
    obtain ⟨c, hc⟩ := List.exists_mem_of_ne_nil _ h
    obtain ⟨p, hp, _⟩ := List.mem_map.mp hc
    rw [List.mem_filter] at hp
    exact ⟨p, hp.1, by simpa using hp.2⟩
theorem mine_perm {Q Q' : List Pn} (h : Q.Perm Q') (s : Int) : (mine Q s).Perm (mine Q' s) := h.filter _
theorem rowsOf_perm {Q Q' : List Pn} (h : Q.Perm Q') (s : Int) : (rowsOf Q s).Perm (rowsOf Q' s) := (mine_perm h s).map _
theorem colsOf_perm {Q Q' : List Pn} (h : Q.Perm Q') (s r : Int) : (colsOf Q s r).Perm (colsOf Q' s r) := ((mine_perm h s).filter _).map _
/-- only pins of some signals -/
theorem mine_filter {Q : List Pn} {W : Int → Bool} {s : Int} (h : W s = true) : mine (Q.filter fun p => W p.1) s = mine Q s := by
  unfold mine
  rw [List.filter_filter]
  congr 1
  funext p
  by_cases e : p.1 = s
  · simp [e, h]
  · simp [e]
/-! dict of dicts -/
def inD (Q : List Pn) (s : Int) : List (L2.Key × List D) := (fo (rowsOf Q s)).map fun r => (.inl r, (colsOf Q s r).map .int)
def ddD (Q : List Pn) : List (L2.Key × List (L2.Key × List D)) := (fo (sgs Q)).map fun s => (.inl s, inD Q s)
theorem inl_ne {a b : Int} (h : a ≠ b) : (Sum.inl a : L2.Key) ≠ .inl b := fun e => h (Sum.inl.inj e)
theorem inD_snoc (Q : List Pn) (p : Pn) : inApp (inD Q p.1) (.inl p.2.2.1) (.int p.2.2.2) = inD (Q ++ [p]) p.1 := by
  unfold inD
  rw [rowsOf_snoc, if_pos rfl, fo_snoc]
  have hn := fo_nodup (rowsOf Q p.1)
  by_cases h : p.2.2.1 ∈ fo (rowsOf Q p.1)
  · unfold foS
    rw [if_pos h]
    obtain ⟨l1, l2, e⟩ := List.append_of_mem h
    rw [e] at hn ⊢
    obtain ⟨n1, n2, n3⟩ := List.nodup_append.mp hn
    have d1 : ∀ r ∈ l1, r ≠ p.2.2.1 := fun r hr => n3 r hr _ List.mem_cons_self
    have d2 : ∀ r ∈ l2, r ≠ p.2.2.1 := fun r hr q => (List.nodup_cons.mp n2).1 (q ▸ hr)
    rw [List.map_append, List.map_cons, inApp_some rfl, List.map_append, List.map_cons]
    · congr 1
      · refine List.map_congr_left fun r hr => ?_
        rw [colsOf_snoc, if_neg fun q => d1 r hr q.2.symm]
      · congr 1
        · rw [colsOf_snoc, if_pos ⟨rfl, rfl⟩, List.map_append]; rfl
        · refine List.map_congr_left fun r hr => ?_
          rw [colsOf_snoc, if_neg fun q => d2 r hr q.2.symm]
    · intro b hb
      obtain ⟨r, hr, rfl⟩ := List.mem_map.mp hb
      exact inl_ne (d1 r hr)
  · unfold foS
    rw [if_neg h, List.map_append, inApp_none]
    · congr 1
      · refine List.map_congr_left fun r hr => ?_
        rw [colsOf_snoc, if_neg (fun (q : p.1 = p.1 ∧ p.2.2.1 = r) => h (q.2 ▸ hr))]
      · rw [List.map_cons, List.map_nil, colsOf_snoc, if_pos ⟨rfl, rfl⟩]
        have : colsOf Q p.1 p.2.2.1 = [] := by
          rw [fo_mem, mem_rowsOf] at h
          exact Classical.not_not.mp h
        rw [this]; rfl
    · intro b hb
      obtain ⟨r, hr, rfl⟩ := List.mem_map.mp hb
      exact inl_ne fun e => h (e ▸ hr)
theorem inD_other {Q : List Pn} {p : Pn} {s : Int} (h : p.1 ≠ s) : inD (Q ++ [p]) s = inD Q s := by
  unfold inD
  rw [rowsOf_snoc, if_neg h]
  refine List.map_congr_left fun r _ => ?_
  rw [colsOf_snoc, if_neg fun q => h q.1]
theorem ddD_snoc (Q : List Pn) (p : Pn) : ddApp (ddD Q) (.inl p.1) (.inl p.2.2.1) (.int p.2.2.2) = ddD (Q ++ [p]) := by
  unfold ddD
  have es : sgs (Q ++ [p]) = sgs Q ++ [p.1] := by unfold sgs; rw [List.map_append]; rfl
  rw [es, fo_snoc]
  have hn := fo_nodup (sgs Q)
  by_cases h : p.1 ∈ fo (sgs Q)
  · unfold foS
    rw [if_pos h]
    obtain ⟨l1, l2, e⟩ := List.append_of_mem h
    rw [e] at hn ⊢
    obtain ⟨n1, n2, n3⟩ := List.nodup_append.mp hn
    have d1 : ∀ r ∈ l1, r ≠ p.1 := fun r hr => n3 r hr _ List.mem_cons_self
    have d2 : ∀ r ∈ l2, r ≠ p.1 := fun r hr q => (List.nodup_cons.mp n2).1 (q ▸ hr)
    rw [List.map_append, List.map_cons, ddApp_some rfl, List.map_append, List.map_cons]
    · congr 1
      · exact List.map_congr_left fun r hr => by rw [inD_other fun q => d1 r hr q.symm]
      · congr 1
        · rw [inD_snoc]
        · exact List.map_congr_left fun r hr => by rw [inD_other fun q => d2 r hr q.symm]
    · intro b hb
      obtain ⟨r, hr, rfl⟩ := List.mem_map.mp hb
      exact inl_ne (d1 r hr)
  · unfold foS
    rw [if_neg h, List.map_append, ddApp_none]
    · congr 1
      · exact List.map_congr_left fun r hr => by rw [inD_other fun q => h (q ▸ hr)]
      · rw [List.map_cons, List.map_nil, ← inD_snoc]
        have h' : mine Q p.1 = [] := by
          rw [fo_mem, mem_sgs] at h
          exact Classical.not_not.mp h
        have : inD Q p.1 = [] := by unfold inD rowsOf; rw [h']; rfl
        rw [this]; rfl
    · intro b hb
      obtain ⟨r, hr, rfl⟩ := List.mem_map.mp hb
      exact inl_ne fun e => h (e ▸ hr)
theorem look_map (F : Int → D) {s : Int} : ∀ {l : List Int}, s ∈ l → lookK (l.map fun s => (.int s, F s)) (.inl s) = some (F s)
  | [], h => by simp at h
  | a :: l, h => by
    rw [List.map_cons]
    unfold lookK
    by_cases e : a = s
    · subst e
      rw [if_pos (by simp [keyIs])]
    · rw [if_neg (by simpa [keyIs] using e)]
      rcases List.mem_cons.mp h with q | h
      · exact absurd q.symm e
      · exact look_map F h
theorem keys_map (F : Int → D) : ∀ (l : List Int), keysI (l.map fun s => (.int s, F s)) = some l
  | [] => rfl
  | a :: l => by
    show (keysI (l.map fun s => (.int s, F s))).map (a :: ·) = _
    rw [keys_map F l]; rfl
/-! sorted keys, least and greatest -/
theorem sort_fo (l : List Int) : sortI (fo l) = uniq l := by
  refine lt_ext ?_ (uniq_lt l) fun k => by rw [(sortI_perm _).mem_iff, fo_mem, mem_uniq]
  have h1 := sortI_sorted (fo l)
  have h2 : (sortI (fo l)).Nodup := (sortI_perm _).nodup_iff.mpr (fo_nodup l)
  exact (h1.and h2).imp fun {a b} ⟨x, y⟩ => by simp at x; omega
theorem uniq_perm {l m : List Int} (h : ∀ k, k ∈ l ↔ k ∈ m) : uniq l = uniq m := lt_ext (uniq_lt l) (uniq_lt m) fun k => by rw [mem_uniq, mem_uniq, h]
theorem maxI_perm {l m : List Int} (h : l.Perm m) (h0 : l ≠ []) : maxI l = maxI m := by
  have h1 : m ≠ [] := fun e => h0 (by rw [e] at h; exact h.eq_nil)
  have a1 := maxI_ge _ (h.mem_iff.mp (maxI_mem h0))
  have a2 := maxI_ge _ (h.mem_iff.mpr (maxI_mem h1))
  omega
theorem minI_perm {l m : List Int} (h : l.Perm m) (h0 : l ≠ []) : minI l = minI m := by
  have h1 : m ≠ [] := fun e => h0 (by rw [e] at h; exact h.eq_nil)
  have a1 := minI_le _ (h.mem_iff.mp (minI_mem h0))
  have a2 := minI_le _ (h.mem_iff.mpr (minI_mem h1))
  omega
/-! the spans -/
def metOf (Q : List Pn) (s : Int) : List Int := uniq (rowsOf Q s)
def entOf (Q : List Pn) (s r : Int) : D := .tuple [.int s, .int (if (metOf Q s).length = 1 then minI (colsOf Q s r) else -1), .int (maxI (colsOf Q s r))]
def st1 (ent : Int → D) (X : List (List D)) (r : Int) : List (List D) := X.set r.toNat (X.getD r.toNat [] ++ [ent r])
def stS (met : Int → List Int) (ent : Int → Int → D) (X : List (List D)) (s : Int) : List (List D) := (met s).foldl (st1 (ent s)) X
def spn (met : Int → List Int) (s : Int) : List D := if 1 < (met s).length then [.tuple [.int s, .int ((met s).getD 0 0), .int ((met s).getD ((met s).length - 1) 0)]] else []
theorem metOf_perm {Q Q' : List Pn} (h : Q.Perm Q') : metOf Q = metOf Q' := by
  funext s
  exact uniq_perm fun k => (rowsOf_perm h s).mem_iff
theorem stS_perm {Q Q' : List Pn} (h : Q.Perm Q') : stS (metOf Q) (entOf Q) = stS (metOf Q') (entOf Q') := by
  funext X s
  unfold stS
  rw [metOf_perm h]
  have : ∀ (l : List Int), (∀ r ∈ l, r ∈ rowsOf Q s) → ∀ X, l.foldl (st1 (entOf Q s)) X = l.foldl (st1 (entOf Q' s)) X := by
    intro l
    induction l with
    | nil => intros; rfl
    | cons r l ih =>
      intro hl X
      rw [List.foldl_cons, List.foldl_cons, ih fun r hr => hl r (List.mem_cons_of_mem _ hr)]
      have hc := mem_rowsOf.mp (hl r List.mem_cons_self)
      have : entOf Q s r = entOf Q' s r := by
        unfold entOf
        rw [metOf_perm h, maxI_perm (colsOf_perm h s r) hc, minI_perm (colsOf_perm h s r) hc]
      unfold st1
      rw [this]
  exact this _ (fun r hr => by rw [← metOf_perm h] at hr; exact mem_uniq.mp hr) X
theorem st1_len (ent : Int → D) (X : List (List D)) (r : Int) : (st1 ent X r).length = X.length := List.length_set
theorem stS_len (met : Int → List Int) (ent : Int → Int → D) (X : List (List D)) (s : Int) : (stS met ent X s).length = X.length := by
  unfold stS
  generalize met s = l
  induction l generalizing X with
  | nil => rfl
  | cons r l ih => rw [List.foldl_cons, ih, st1_len]

end K36
namespace K36
open PySem Ow PyProof.Rows
abbrev tp2 (p : Int × Int) : D := .tuple [.int p.1, .int p.2]
def pnD (p : Pn) : D := .tuple [.int p.1, .int p.2.1, .int p.2.2.1, .int p.2.2.2]
/-! block_places -/
def kvT (T : List (Int × Int × Int)) (kvs : List (L2.Key × D)) : List (L2.Key × D) := T.foldl (fun k t => putD k (.inl t.1) (tp2 t.2)) kvs
theorem kvT_app (T U : List (Int × Int × Int)) (kvs : List (L2.Key × D)) : kvT (T ++ U) kvs = kvT U (kvT T kvs) := List.foldl_append
theorem kvT_len (T : List (Int × Int × Int)) : ∀ (kvs : List (L2.Key × D)), (kvT T kvs).length ≤ kvs.length + T.length := by
  induction T with
  | nil => intro kvs; exact Nat.le_refl _
  | cons t T ih =>
    intro kvs
    have h1 := ih (putD kvs (.inl t.1) (tp2 t.2))
    have h2 := putD_len kvs (.inl t.1) (tp2 t.2)
    show (kvT T (putD kvs (.inl t.1) (tp2 t.2))).length ≤ _
    rw [List.length_cons]; omega
theorem kvT_out {b : Int} : ∀ {T : List (Int × Int × Int)} {kvs : List (L2.Key × D)}, b ∉ T.map (·.1) → valD (kvT T kvs) (.inl b) = valD kvs (.inl b)
  | [], _, _ => rfl
  | t :: T, kvs, h => by
    show valD (kvT T (putD kvs (.inl t.1) (tp2 t.2))) (.inl b) = _
    rw [kvT_out (fun q => h (List.mem_cons_of_mem _ q)), valD_put, if_neg fun (q : (Sum.inl b : L2.Key) = .inl t.1) => h (by rw [Sum.inl.inj q]; exact List.mem_cons_self)]
theorem kvT_in {b : Int} : ∀ {T : List (Int × Int × Int)} {kvs : List (L2.Key × D)}, (T.map (·.1)).Nodup → b ∈ T.map (·.1) → valD (kvT T kvs) (.inl b) = some (tp2 (lk3 T b))
  | [], _, _, h => by simp at h
  | t :: T, kvs, hn, h => by
    rw [List.map_cons, List.nodup_cons] at hn
    show valD (kvT T (putD kvs (.inl t.1) (tp2 t.2))) (.inl b) = _
    unfold lk3
    by_cases e : t.1 = b
    · subst e
      rw [if_pos rfl, kvT_out hn.1, valD_put, if_pos rfl]
    · rw [if_neg e]
      rw [List.map_cons] at h
      rcases List.mem_cons.mp h with q | h
      · exact absurd q.symm e
      · exact kvT_in hn.2 h
theorem bp_row {B : List Bk} {MP PL L : D} {r : Int} : ∀ (l : List Int) (kvs : List (L2.Key × D)) (c : Int) (b : Sl), (∀ b ∈ l, 0 ≤ b ∧ b < (B.length : Int)) → kvs.length + l.length < 16000000 → okS (some b) = true → ∃ (c' : Int) (b' : Sl), okS (some b') = true ∧
    forL (gNm 7) L1_block_places (l.map .int) [.pu MP, .pu PL, .pu (.tuple (B.map bkT)), .ow false (.dk kvs), .pu (.int r), .pu L, .pu (.int c), b] = .nx [.pu MP, .pu PL, .pu (.tuple (B.map bkT)), .ow false (.dk (kvT (placeRow B r c l) kvs)), .pu (.int r), .pu L, .pu (.int c'), b']
  | [], kvs, c, b, _, _, q => ⟨c, b, q, rfl⟩
  | x :: l, kvs, c, b, h, hk, q => by
    have hx0 := h x List.mem_cons_self
    rw [List.length_cons] at hk
    have hput := putD_len kvs (.inl x) (tp2 (r, c))
    obtain ⟨c', b', q', e⟩ := bp_row (MP := MP) (PL := PL) (L := L) (r := r) l (putD kvs (.inl x) (tp2 (r, c))) (c + wd B x) (.pu (.int x)) (fun b hb => h b (List.mem_cons_of_mem _ hb)) (by omega) rfl
    refine ⟨c', b', q', ?_⟩
    have h1 : gNm 7 (.int x) [.pu MP, .pu PL, .pu (.tuple (B.map bkT)), .ow false (.dk kvs), .pu (.int r), .pu L, .pu (.int c), b] = some [.pu MP, .pu PL, .pu (.tuple (B.map bkT)), .ow false (.dk kvs), .pu (.int r), .pu L, .pu (.int c), .pu (.int x)] := by simp [setSl_ok, q]
    have h2 : L1_block_places [.pu MP, .pu PL, .pu (.tuple (B.map bkT)), .ow false (.dk kvs), .pu (.int r), .pu L, .pu (.int c), .pu (.int x)] = .nx [.pu MP, .pu PL, .pu (.tuple (B.map bkT)), .ow false (.dk (putD kvs (.inl x) (tp2 (r, c)))), .pu (.int r), .pu L, .pu (.int (c + wd B x)), .pu (.int x)] := by
      have hx : fIx (.tuple (B.map bkT)) (.int x) = some (.pu (bkT (B.getD x.toNat []))) := by show (L2.atI _ x).map Rs.pu = _; rw [bk_at bkT hx0.1 hx0.2]; rfl
      have hl : fLen (bkT (B.getD x.toNat [])) = some (B.getD x.toNat []).length := by show some _ = _; rw [List.length_map]
      have hw : wd B x = (((B.getD x.toNat []).length : Nat) : Int) := rfl
      have hk2 : kvs.length < 16000000 := by omega
      generalize B.map bkT = BT at *
      generalize bkT (B.getD x.toNat []) = X at *
      simp [-rg1_eq, -f_shl, -ap_range3, -List.map_replicate, ap_var, ap_retV, setSl_ok, fnOf_eq, bin1_eq, lc1_eq, okW, loose, wipeR, restR, lcE, wb1, wb2, wb3, wb4, wb5, wb6, wb7, L1_block_places, hx, hl, hw, hk2, keyOf]
    rw [List.map_cons, forL_cons, h1]
    dsimp only
    rw [h2]
    dsimp only
    rw [e]
    rfl
theorem bp_rows {B : List Bk} {MP PL : D} : ∀ (P : List (List Int)) (n : Nat) (kvs : List (L2.Key × D)) (s4 s5 s6 s7 : Sl), (∀ l ∈ P, ∀ b ∈ l, 0 ≤ b ∧ b < (B.length : Int)) → kvs.length + P.flatten.length < 16000000 → okS (some s4) = true → okS (some s5) = true → okS (some s6) = true → okS (some s7) = true → ∃ (s4' s5' s6' s7' : Sl),
    forL (gTp 2 (gCn (gNm 4) (gCn (gNm 5) gNl))) L2_block_places (enumD n (P.map arD)) [.pu MP, .pu PL, .pu (.tuple (B.map bkT)), .ow false (.dk kvs), s4, s5, s6, s7] = .nx [.pu MP, .pu PL, .pu (.tuple (B.map bkT)), .ow false (.dk (kvT (placeL B (n : Int) P) kvs)), s4', s5', s6', s7']
  | [], n, kvs, s4, s5, s6, s7, _, _, _, _, _, _ => ⟨s4, s5, s6, s7, rfl⟩
  | l :: P, n, kvs, s4, s5, s6, s7, h, hk, q4, q5, q6, q7 => by
    rw [List.flatten_cons, List.length_append] at hk
    have hlen : (kvT (placeRow B (n : Int) 0 l) kvs).length ≤ kvs.length + l.length := by
      have h1 := kvT_len (placeRow B (n : Int) 0 l) kvs
      have h2 : (placeRow B (n : Int) 0 l).length = l.length := by rw [← List.length_map (f := (·.1)), placeRow_fst]
      omega
    obtain ⟨c', b', q', e1⟩ := bp_row (B := B) (MP := MP) (PL := PL) (L := arD l) (r := (n : Int)) l kvs 0 s7 (h l List.mem_cons_self) (by omega) q7
    obtain ⟨t4, t5, t6, t7, e⟩ := bp_rows (MP := MP) (PL := PL) P (n + 1) (kvT (placeRow B (n : Int) 0 l) kvs) (.pu (.int (n : Int))) (.pu (arD l)) (.pu (.int c')) b' (fun l hl => h l (List.mem_cons_of_mem _ hl)) (by omega) rfl rfl rfl q'
    refine ⟨t4, t5, t6, t7, ?_⟩
    have h1 : gTp 2 (gCn (gNm 4) (gCn (gNm 5) gNl)) (.tuple [.int (n : Int), arD l]) [.pu MP, .pu PL, .pu (.tuple (B.map bkT)), .ow false (.dk kvs), s4, s5, s6, s7] = some [.pu MP, .pu PL, .pu (.tuple (B.map bkT)), .ow false (.dk kvs), .pu (.int (n : Int)), .pu (arD l), s6, s7] := by simp [setSl_ok, q4, q5]
    have h2 : L2_block_places [.pu MP, .pu PL, .pu (.tuple (B.map bkT)), .ow false (.dk kvs), .pu (.int (n : Int)), .pu (arD l), s6, s7] = .nx [.pu MP, .pu PL, .pu (.tuple (B.map bkT)), .ow false (.dk (kvT (placeRow B (n : Int) 0 l) kvs)), .pu (.int (n : Int)), .pu (arD l), .pu (.int c'), b'] := by
      have hl : arD l = .tuple (l.map .int) := rfl
      rw [hl] at e1 ⊢
      generalize B.map bkT = BT at *
      generalize l.map PyData.int = L at *
      generalize ((n : Nat) : Int) = N at *
      simp [-rg1_eq, -f_shl, -ap_range3, -List.map_replicate, ap_var, ap_retV, setSl_ok, fnOf_eq, bin1_eq, lc1_eq, okW, loose, wipeR, restR, lcE, wb1, wb2, wb3, wb4, wb5, wb6, wb7, L2_block_places, e1, q6]
    rw [List.map_cons, enumD, forL_cons, h1]
    dsimp only
    rw [h2]
    dsimp only
    rw [e]
    show _ = Mo.nx [_, _, _, Sl.ow false (Ct.dk (kvT (placeRow B (n : Int) 0 l ++ placeL B ((n : Int) + 1) P) kvs)), _, _, _, _]
    rw [kvT_app]
    rfl
theorem block_places_ok {m : Mp} (hb : g_blocks_of [.pu (mpD m)] = .ret (.pu (.tuple ((bls m).map bkT))) [.pu (mpD m)]) {P : List (List Int)} (h : ∀ l ∈ P, ∀ b ∈ l, 0 ≤ b ∧ b < ((bls m).length : Int)) (hP : P.flatten.length < 1000000) :
    g_block_places [.pu (mpD m), .pu (plD P)] = .ret (.nw (.dk (kvT (placeL (bls m) 0 P) []))) [.pu (mpD m), .pu (plD P)] := by
  obtain ⟨s4, s5, s6, s7, e⟩ := bp_rows (B := bls m) (MP := mpD m) (PL := plD P) P 0 [] .no .no .no .no h (by simp only [List.length_nil]; omega) rfl rfl rfl rfl
  have hPl : plD P = .tuple (P.map arD) := rfl
  rw [hPl] at e ⊢
  generalize mpD m = MP at *
  generalize kvT (placeL (bls m) ((0 : Nat) : Int) P) [] = KV at *
  generalize (bls m).map bkT = BT at *
  generalize P.map arD = PD at *
  simp [-rg1_eq, -f_shl, -ap_range3, -List.map_replicate, ap_var, ap_retV, setSl_ok, fnOf_eq, bin1_eq, lc1_eq, okW, loose, wipeR, restR, lcE, wb1, wb2, wb3, wb4, wb5, wb6, wb7, g_block_places, b_block_places, hb, e]
/-! pins_of -/
theorem po_bk {MP PL BT BL CO : D} {kv : List (L2.Key × D)} {r c : Int} : ∀ (b : Bk) (n : Nat) (S : List D) (s9 s10 s11 : Sl), S.length + b.length < 16000000 → okS (some s9) = true → okS (some s10) = true → okS (some s11) = true → ∃ (s9' s10' s11' : Sl), okS (some s9') = true ∧ okS (some s10') = true ∧ okS (some s11') = true ∧
    forL (gTp 2 (gCn (gNm 9) (gCn (gTp 2 (gCn (gNm 10) (gCn (gNm 11) gNl))) gNl))) L1_pins_of (enumD n (b.map coD)) [.pu MP, .pu PL, .pu BT, .ow false (.dk kv), .ow false (.li S), .pu BL, .pu CO, .pu (.int r), .pu (.int c), s9, s10, s11] = .nx [.pu MP, .pu PL, .pu BT, .ow false (.dk kv), .ow false (.li (S ++ (bp b r (c + (n : Int))).map pnD)), .pu BL, .pu CO, .pu (.int r), .pu (.int c), s9', s10', s11']
  | [], n, S, s9, s10, s11, _, q9, q10, q11 => ⟨s9, s10, s11, q9, q10, q11, by simp [bp, enumD]⟩
  | x :: b, n, S, s9, s10, s11, hk, q9, q10, q11 => by
    rw [List.length_cons] at hk
    obtain ⟨t9, t10, t11, u9, u10, u11, e⟩ := po_bk (MP := MP) (PL := PL) (BT := BT) (BL := BL) (CO := CO) (kv := kv) (r := r) (c := c) b (n + 1) (S ++ [pnD (x.1, x.2, r, c + (n : Int))]) (.pu (.int (n : Int))) (.pu (.int x.1)) (.pu (.int x.2)) (by simp; omega) rfl rfl rfl
    refine ⟨t9, t10, t11, u9, u10, u11, ?_⟩
    have h1 : gTp 2 (gCn (gNm 9) (gCn (gTp 2 (gCn (gNm 10) (gCn (gNm 11) gNl))) gNl)) (.tuple [.int (n : Int), coD x]) [.pu MP, .pu PL, .pu BT, .ow false (.dk kv), .ow false (.li S), .pu BL, .pu CO, .pu (.int r), .pu (.int c), s9, s10, s11] = some [.pu MP, .pu PL, .pu BT, .ow false (.dk kv), .ow false (.li S), .pu BL, .pu CO, .pu (.int r), .pu (.int c), .pu (.int (n : Int)), .pu (.int x.1), .pu (.int x.2)] := by simp [setSl_ok, q9, q10, q11, coD]
    have h2 : L1_pins_of [.pu MP, .pu PL, .pu BT, .ow false (.dk kv), .ow false (.li S), .pu BL, .pu CO, .pu (.int r), .pu (.int c), .pu (.int (n : Int)), .pu (.int x.1), .pu (.int x.2)] = .nx [.pu MP, .pu PL, .pu BT, .ow false (.dk kv), .ow false (.li (S ++ [pnD (x.1, x.2, r, c + (n : Int))])), .pu BL, .pu CO, .pu (.int r), .pu (.int c), .pu (.int (n : Int)), .pu (.int x.1), .pu (.int x.2)] := by
      have hS : S.length < 16000000 := by omega
      generalize ((n : Nat) : Int) = N at *
      simp [-rg1_eq, -f_shl, -ap_range3, -List.map_replicate, ap_var, ap_retV, setSl_ok, fnOf_eq, bin1_eq, lc1_eq, okW, loose, wipeR, restR, lcE, wb1, wb2, wb3, wb4, wb5, wb6, wb7, L1_pins_of, hS, pnD]
    rw [List.map_cons, enumD, forL_cons, h1]
    dsimp only
    rw [h2]
    dsimp only
    rw [e]
    have hc : c + ((n + 1 : Nat) : Int) = c + (n : Int) + 1 := by omega
    rw [hc]
    show _ = Mo.nx [_, _, _, _, Sl.ow false (Ct.li (S ++ (pnD (x.1, x.2, r, c + (n : Int)) :: (bp b r (c + (n : Int) + 1)).map pnD))), _, _, _, _, _, _, _]
    rw [List.append_assoc]; rfl
def widB (B : List Bk) : Nat := (B.map List.length).sum
theorem bp_len (r : Int) : ∀ (b : Bk) (c : Int), (bp b r c).length = b.length
  | [], _ => rfl
  | x :: b, c => by show (bp b r (c + 1)).length + 1 = _; rw [bp_len r b]; rfl
def ksF (n l : Nat) : List Int := (List.range' n l).map fun k => ((k : Nat) : Int)
theorem po_all {B : List Bk} {P : List (List Int)} {MP PL BT : D} (hn : P.flatten.Nodup) (hm : ∀ k : Nat, k < B.length → (k : Int) ∈ P.flatten) : ∀ (Bs : List Bk) (n : Nat) (S : List D) (s5 s6 s7 s8 s9 s10 s11 : Sl), B.drop n = Bs → S.length + widB Bs < 16000000 → okS (some s5) = true → okS (some s6) = true → okS (some s7) = true → okS (some s8) = true → okS (some s9) = true → okS (some s10) = true → okS (some s11) = true → ∃ (s5' s6' s7' s8' s9' s10' s11' : Sl),
    forL (gTp 2 (gCn (gNm 5) (gCn (gNm 6) gNl))) L2_pins_of (enumD n (Bs.map bkT)) [.pu MP, .pu PL, .pu BT, .ow false (.dk (kvT (placeL B 0 P) [])), .ow false (.li S), s5, s6, s7, s8, s9, s10, s11] = .nx [.pu MP, .pu PL, .pu BT, .ow false (.dk (kvT (placeL B 0 P) [])), .ow false (.li (S ++ (pinsA B P (ksF n Bs.length)).map pnD)), s5', s6', s7', s8', s9', s10', s11']
  | [], n, S, s5, s6, s7, s8, s9, s10, s11, _, _, _, _, _, _, _, _, _ => ⟨s5, s6, s7, s8, s9, s10, s11, by simp [pinsA, ksF, enumD]⟩
  | b :: Bs, n, S, s5, s6, s7, s8, s9, s10, s11, hd, hk, q5, q6, q7, q8, q9, q10, q11 => by
    have hlt : n < B.length := by
      have := congrArg List.length hd
      rw [List.length_drop, List.length_cons] at this
      omega
    have hbn : B.getD n [] = b := by
      have := congrArg (fun l : List Bk => l[0]?) hd
      simp at this
      rw [List.getD_eq_getElem?_getD, this]; rfl
    have hd2 : B.drop (n + 1) = Bs := by rw [← List.tail_drop, hd]; rfl
    have hk2 : S.length + (b.length + widB Bs) < 16000000 := by simpa [widB] using hk
    have hlk : valD (kvT (placeL B 0 P) []) (.inl (n : Int)) = some (tp2 (lk3 (placeL B 0 P) (n : Int))) := kvT_in (by rw [placeL_fst]; exact hn) (by rw [placeL_fst]; exact hm n hlt)
    have hpo : pinOf B P (n : Int) = bp b (lk3 (placeL B 0 P) (n : Int)).1 (lk3 (placeL B 0 P) (n : Int)).2 := by unfold pinOf; rw [Int.toNat_natCast, hbn]
    generalize lk3 (placeL B 0 P) (n : Int) = rc at *
    obtain ⟨r, c⟩ := rc
    obtain ⟨t9, t10, t11, u9, u10, u11, e1⟩ := po_bk (MP := MP) (PL := PL) (BT := BT) (BL := .int (n : Int)) (CO := bkT b) (kv := kvT (placeL B 0 P) []) (r := r) (c := c) b 0 S s9 s10 s11 (by omega) q9 q10 q11
    have hc0 : c + ((0 : Nat) : Int) = c := by omega
    rw [hc0] at e1
    have hpo' : bp b r c = pinOf B P (n : Int) := hpo.symm
    obtain ⟨t5, t6, t7, t8, v9, v10, v11, e⟩ := po_all (MP := MP) (PL := PL) (BT := BT) hn hm Bs (n + 1) (S ++ (bp b r c).map pnD) (.pu (.int (n : Int))) (.pu (bkT b)) (.pu (.int r)) (.pu (.int c)) t9 t10 t11 hd2 (by rw [List.length_append, List.length_map, bp_len]; omega) rfl rfl rfl rfl u9 u10 u11
    refine ⟨t5, t6, t7, t8, v9, v10, v11, ?_⟩
    have h1 : gTp 2 (gCn (gNm 5) (gCn (gNm 6) gNl)) (.tuple [.int (n : Int), bkT b]) [.pu MP, .pu PL, .pu BT, .ow false (.dk (kvT (placeL B 0 P) [])), .ow false (.li S), s5, s6, s7, s8, s9, s10, s11] = some [.pu MP, .pu PL, .pu BT, .ow false (.dk (kvT (placeL B 0 P) [])), .ow false (.li S), .pu (.int (n : Int)), .pu (bkT b), s7, s8, s9, s10, s11] := by simp [setSl_ok, q5, q6]
    have h2 : L2_pins_of [.pu MP, .pu PL, .pu BT, .ow false (.dk (kvT (placeL B 0 P) [])), .ow false (.li S), .pu (.int (n : Int)), .pu (bkT b), s7, s8, s9, s10, s11] = .nx [.pu MP, .pu PL, .pu BT, .ow false (.dk (kvT (placeL B 0 P) [])), .ow false (.li (S ++ (bp b r c).map pnD)), .pu (.int (n : Int)), .pu (bkT b), .pu (.int r), .pu (.int c), t9, t10, t11] := by
      generalize kvT (placeL B 0 P) [] = KV at *
      have hbk : bkT b = .tuple (b.map coD) := rfl
      rw [hbk] at e1 ⊢
      generalize b.map coD = L at *
      generalize ((n : Nat) : Int) = N at *
      generalize (bp b r c).map pnD = PN at *
      simp [-rg1_eq, -f_shl, -ap_range3, -List.map_replicate, ap_var, ap_retV, setSl_ok, fnOf_eq, bin1_eq, lc1_eq, okW, loose, wipeR, restR, lcE, wb1, wb2, wb3, wb4, wb5, wb6, wb7, L2_pins_of, e1, q7, q8, hlk, keyOf, tp2]
    rw [List.map_cons, enumD, forL_cons, h1]
    dsimp only
    rw [h2]
    dsimp only
    rw [e]
    have : pinsA B P (ksF n (b :: Bs).length) = bp b r c ++ pinsA B P (ksF (n + 1) Bs.length) := by
      rw [hpo']; rfl
    rw [this, List.map_append, List.append_assoc]
theorem ksF_rg (n : Nat) : ksF 0 n = rgI n := by unfold ksF rgI; rw [List.range_eq_range']
theorem pins_of_ok {m : Mp} (hb : g_blocks_of [.pu (mpD m)] = .ret (.pu (.tuple ((bls m).map bkT))) [.pu (mpD m)]) {P : List (List Int)} (hp : P.flatten.Perm (rgI (bls m).length)) (hB : (bls m).length ≤ 100000) (hw : widB (bls m) ≤ 1000000) :
    g_pins_of [.pu (mpD m), .pu (plD P)] = .ret (.nw (.li ((pinsA (bls m) P (rgI (bls m).length)).map pnD))) [.pu (mpD m), .pu (plD P)] := by
  have hfl := hp.length_eq
  rw [rgI_len] at hfl
  have e0 := block_places_ok hb (P := P) (inRg (sortI_rg hp)) (by omega)
  have hnd : (rgI (bls m).length).Nodup := by
    unfold rgI
    exact List.Pairwise.map (R := fun a b : Nat => a ≠ b) (S := fun a b : Int => a ≠ b) (fun k : Nat => (k : Int)) (fun a b h q => h (by omega)) List.nodup_range
  obtain ⟨s5, s6, s7, s8, s9, s10, s11, e⟩ := po_all (B := bls m) (P := P) (MP := mpD m) (PL := plD P) (BT := .tuple ((bls m).map bkT)) (hp.nodup_iff.mpr hnd) (fun k hk => hp.mem_iff.mpr (mem_rgI.mpr ⟨by omega, by omega⟩)) (bls m) 0 [] .no .no .no .no .no .no .no rfl (by simp only [List.length_nil]; omega) rfl rfl rfl rfl rfl rfl rfl
  rw [ksF_rg, List.nil_append] at e
  generalize plD P = PL at *
  generalize mpD m = MP at *
  generalize (pinsA (bls m) P (rgI (bls m).length)).map pnD = PN at *
  generalize kvT (placeL (bls m) 0 P) [] = KV at *
  generalize (bls m).map bkT = BT at *
  simp [-rg1_eq, -f_shl, -ap_range3, -List.map_replicate, ap_var, ap_retV, setSl_ok, fnOf_eq, bin1_eq, lc1_eq, okW, loose, wipeR, restR, lcE, wb1, wb2, wb3, wb4, wb5, wb6, wb7, g_pins_of, b_pins_of, hb, e0, e]
end K36
namespace K36
open PySem Ow PyProof.Rows
/-! wired_signals -/
def wS (k : List (L2.Key × D)) (x : Int × Int) : List (L2.Key × D) := if x.2 = 0 then putD k (.inl x.1) (.bool true) else k
def wSB (k : List (L2.Key × D)) (b : Bk) : List (L2.Key × D) := b.foldl wS k
theorem wS_len (k : List (L2.Key × D)) (x : Int × Int) : (wS k x).length ≤ k.length + 1 := by
  unfold wS
  split
  · exact putD_len _ _ _
  · omega
theorem wSB_len : ∀ (b : Bk) (k : List (L2.Key × D)), (wSB k b).length ≤ k.length + b.length
  | [], k => Nat.le_refl _
  | x :: b, k => by
    have h1 := wSB_len b (wS k x)
    have h2 := wS_len k x
    show (wSB (wS k x) b).length ≤ _
    rw [List.length_cons]; omega
def isW (B : List Bk) (s : Int) : Bool := B.any fun b => b.any fun x => decide (x.1 = s) && decide (x.2 = 0)
theorem wS_val (k : List (L2.Key × D)) (x : Int × Int) (s : Int) : (valD (wS k x) (.inl s)).isSome = ((valD k (.inl s)).isSome || (decide (x.1 = s) && decide (x.2 = 0))) := by
  unfold wS
  by_cases h : x.2 = 0
  · rw [if_pos h, valD_put]
    by_cases e : s = x.1
    · subst e; simp [h]
    · have e' : ¬ x.1 = s := fun q => e q.symm
      rw [if_neg (inl_ne e)]; simp [e']
  · rw [if_neg h]; simp [h]
theorem wSB_val : ∀ (b : Bk) (k : List (L2.Key × D)) (s : Int), (valD (wSB k b) (.inl s)).isSome = ((valD k (.inl s)).isSome || b.any fun x => decide (x.1 = s) && decide (x.2 = 0))
  | [], k, s => by simp [wSB]
  | x :: b, k, s => by
    show (valD (wSB (wS k x) b) (.inl s)).isSome = _
    rw [wSB_val b, wS_val, List.any_cons, Bool.or_assoc]
theorem wB_val : ∀ (B : List Bk) (k : List (L2.Key × D)) (s : Int), (valD (B.foldl wSB k) (.inl s)).isSome = ((valD k (.inl s)).isSome || isW B s)
  | [], k, s => by simp [isW]
  | b :: B, k, s => by
    rw [List.foldl_cons, wB_val B, wSB_val]
    unfold isW
    rw [List.any_cons, Bool.or_assoc]
theorem wi_bk {MP C : D} : ∀ (b : Bk) (kvs : List (L2.Key × D)) (s3 s4 : Sl), kvs.length + b.length < 16000000 → okS (some s3) = true → okS (some s4) = true → ∃ (s3' s4' : Sl), okS (some s3') = true ∧ okS (some s4') = true ∧
    forL (gTp 2 (gCn (gNm 3) (gCn (gNm 4) gNl))) L1_wired_signals (b.map coD) [.pu MP, .ow false (.dk kvs), .pu C, s3, s4] = .nx [.pu MP, .ow false (.dk (wSB kvs b)), .pu C, s3', s4']
  | [], kvs, s3, s4, _, q3, q4 => ⟨s3, s4, q3, q4, rfl⟩
  | x :: b, kvs, s3, s4, hk, q3, q4 => by
    rw [List.length_cons] at hk
    have hl := wS_len kvs x
    obtain ⟨t3, t4, u3, u4, e⟩ := wi_bk (MP := MP) (C := C) b (wS kvs x) (.pu (.int x.1)) (.pu (.int x.2)) (by omega) rfl rfl
    refine ⟨t3, t4, u3, u4, ?_⟩
    have h1 : gTp 2 (gCn (gNm 3) (gCn (gNm 4) gNl)) (coD x) [.pu MP, .ow false (.dk kvs), .pu C, s3, s4] = some [.pu MP, .ow false (.dk kvs), .pu C, .pu (.int x.1), .pu (.int x.2)] := by simp [setSl_ok, q3, q4, coD]
    have h2 : L1_wired_signals [.pu MP, .ow false (.dk kvs), .pu C, .pu (.int x.1), .pu (.int x.2)] = .nx [.pu MP, .ow false (.dk (wS kvs x)), .pu C, .pu (.int x.1), .pu (.int x.2)] := by
      have hk2 : kvs.length < 16000000 := by omega
      have he := eqInt x.2 0
      unfold wS
      by_cases h0 : x.2 = 0
      · rw [decide_eq_true h0] at he
        rw [if_pos h0]
        simp [-rg1_eq, -f_shl, -ap_range3, -List.map_replicate, ap_var, ap_retV, setSl_ok, fnOf_eq, bin1_eq, lc1_eq, okW, loose, wipeR, restR, lcE, wb1, wb2, wb3, wb4, wb5, wb6, wb7, L1_wired_signals, he, hk2, keyOf]
      · rw [decide_eq_false h0] at he
        rw [if_neg h0]
        simp [-rg1_eq, -f_shl, -ap_range3, -List.map_replicate, ap_var, ap_retV, setSl_ok, fnOf_eq, bin1_eq, lc1_eq, okW, loose, wipeR, restR, lcE, wb1, wb2, wb3, wb4, wb5, wb6, wb7, L1_wired_signals, he]
    rw [List.map_cons, forL_cons, h1]
    dsimp only
    rw [h2]
    dsimp only
    rw [e]
    rfl
theorem wi_all {MP : D} : ∀ (B : List Bk) (kvs : List (L2.Key × D)) (s2 s3 s4 : Sl), kvs.length + widB B < 16000000 → okS (some s2) = true → okS (some s3) = true → okS (some s4) = true → ∃ (s2' s3' s4' : Sl),
    forL (gNm 2) L2_wired_signals (B.map bkT) [.pu MP, .ow false (.dk kvs), s2, s3, s4] = .nx [.pu MP, .ow false (.dk (B.foldl wSB kvs)), s2', s3', s4']
  | [], kvs, s2, s3, s4, _, _, _, _ => ⟨s2, s3, s4, rfl⟩
  | b :: B, kvs, s2, s3, s4, hk, q2, q3, q4 => by
    have hk2 : kvs.length + (b.length + widB B) < 16000000 := by simpa [widB] using hk
    have hl := wSB_len b kvs
    obtain ⟨t3, t4, u3, u4, e1⟩ := wi_bk (MP := MP) (C := bkT b) b kvs s3 s4 (by omega) q3 q4
    obtain ⟨v2, v3, v4, e⟩ := wi_all (MP := MP) B (wSB kvs b) (.pu (bkT b)) t3 t4 (by omega) rfl u3 u4
    refine ⟨v2, v3, v4, ?_⟩
    have h1 : gNm 2 (bkT b) [.pu MP, .ow false (.dk kvs), s2, s3, s4] = some [.pu MP, .ow false (.dk kvs), .pu (bkT b), s3, s4] := by simp [setSl_ok, q2]
    have h2 : L2_wired_signals [.pu MP, .ow false (.dk kvs), .pu (bkT b), s3, s4] = .nx [.pu MP, .ow false (.dk (wSB kvs b)), .pu (bkT b), t3, t4] := by
      have hbk : bkT b = .tuple (b.map coD) := rfl
      rw [hbk] at e1 ⊢
      generalize b.map coD = L at *
      simp [-rg1_eq, -f_shl, -ap_range3, -List.map_replicate, ap_var, ap_retV, setSl_ok, fnOf_eq, bin1_eq, lc1_eq, okW, loose, wipeR, restR, lcE, wb1, wb2, wb3, wb4, wb5, wb6, wb7, L2_wired_signals, e1]
    rw [List.map_cons, forL_cons, h1]
    dsimp only
    rw [h2]
    dsimp only
    rw [e]
    rfl
theorem wired_ok {m : Mp} (hb : g_blocks_of [.pu (mpD m)] = .ret (.pu (.tuple ((bls m).map bkT))) [.pu (mpD m)]) (hw : widB (bls m) ≤ 1000000) : ∃ kw : List (L2.Key × D), (∀ s, (valD kw (.inl s)).isSome = isW (bls m) s) ∧ g_wired_signals [.pu (mpD m)] = .ret (.nw (.dk kw)) [.pu (mpD m)] := by
  obtain ⟨s2, s3, s4, e⟩ := wi_all (MP := mpD m) (bls m) [] .no .no .no (by simp only [List.length_nil]; omega) rfl rfl rfl
  refine ⟨(bls m).foldl wSB [], fun s => by rw [wB_val, valD_nil]; rfl, ?_⟩
  generalize mpD m = MP at *
  generalize (bls m).foldl wSB [] = KV at *
  generalize (bls m).map bkT = BT at *
  simp [-rg1_eq, -f_shl, -ap_range3, -List.map_replicate, ap_var, ap_retV, setSl_ok, fnOf_eq, bin1_eq, lc1_eq, okW, loose, wipeR, restR, lcE, wb1, wb2, wb3, wb4, wb5, wb6, wb7, g_wired_signals, b_wired_signals, hb, e]
/-! the law's pins -/
theorem lp_bk {MP PL BK : D} {BL : Ct} {T : List D} {r : Int} : ∀ (b : Bk) (c : Int) (S : List D) (s8 s9 : Sl), S.length + b.length < 16000000 → okS (some s8) = true → okS (some s9) = true → ∃ (s8' s9' : Sl), okS (some s8') = true ∧ okS (some s9') = true ∧
    forL (gTp 2 (gCn (gNm 8) (gCn (gNm 9) gNl))) L1__law_pins (b.map coD) [.pu MP, .pu PL, .ow false BL, .ow false (.li T), .ow false (.li S), .pu (.int r), .pu (.int c), .pu BK, s8, s9] = .nx [.pu MP, .pu PL, .ow false BL, .ow false (.li T), .ow false (.li (S ++ (bp b r c).map pnD)), .pu (.int r), .pu (.int (c + (b.length : Int))), .pu BK, s8', s9']
  | [], c, S, s8, s9, _, q8, q9 => ⟨s8, s9, q8, q9, by simp [bp]⟩
  | x :: b, c, S, s8, s9, hk, q8, q9 => by
    rw [List.length_cons] at hk
    obtain ⟨t8, t9, u8, u9, e⟩ := lp_bk (MP := MP) (PL := PL) (BK := BK) (BL := BL) (T := T) (r := r) b (c + 1) (S ++ [pnD (x.1, x.2, r, c)]) (.pu (.int x.1)) (.pu (.int x.2)) (by simp; omega) rfl rfl
    refine ⟨t8, t9, u8, u9, ?_⟩
    have h1 : gTp 2 (gCn (gNm 8) (gCn (gNm 9) gNl)) (coD x) [.pu MP, .pu PL, .ow false BL, .ow false (.li T), .ow false (.li S), .pu (.int r), .pu (.int c), .pu BK, s8, s9] = some [.pu MP, .pu PL, .ow false BL, .ow false (.li T), .ow false (.li S), .pu (.int r), .pu (.int c), .pu BK, .pu (.int x.1), .pu (.int x.2)] := by simp [setSl_ok, q8, q9, coD]
    have h2 : L1__law_pins [.pu MP, .pu PL, .ow false BL, .ow false (.li T), .ow false (.li S), .pu (.int r), .pu (.int c), .pu BK, .pu (.int x.1), .pu (.int x.2)] = .nx [.pu MP, .pu PL, .ow false BL, .ow false (.li T), .ow false (.li (S ++ [pnD (x.1, x.2, r, c)])), .pu (.int r), .pu (.int (c + 1)), .pu BK, .pu (.int x.1), .pu (.int x.2)] := by
      have hS : S.length < 16000000 := by omega
      simp [-rg1_eq, -f_shl, -ap_range3, -List.map_replicate, ap_var, ap_retV, setSl_ok, fnOf_eq, bin1_eq, lc1_eq, okW, loose, wipeR, restR, lcE, wb1, wb2, wb3, wb4, wb5, wb6, wb7, L1__law_pins, hS, pnD]
    rw [List.map_cons, forL_cons, h1]
    dsimp only
    rw [h2]
    dsimp only
    rw [e]
    have hc : c + 1 + (b.length : Int) = c + ((x :: b).length : Int) := by rw [List.length_cons]; omega
    rw [hc]
    show _ = Mo.nx [_, _, _, _, Sl.ow false (Ct.li (S ++ (pnD (x.1, x.2, r, c) :: (bp b r (c + 1)).map pnD))), _, _, _, _, _]
    rw [List.append_assoc]; rfl
def pf (B : List Bk) (t : Int × Int × Int) : List Pn := bp (B.getD t.1.toNat []) t.2.1 t.2.2
def rowW' (B : List Bk) (l : List Int) : Nat := (l.map fun b => (B.getD b.toNat []).length).sum
theorem lp_row {B : List Bk} {MP PL : D} {r : Int} : ∀ (l : List Int) (c : Int) (T S : List D) (s7 s8 s9 : Sl), (∀ b ∈ l, 0 ≤ b ∧ b < (B.length : Int)) → T.length = B.length → S.length + rowW' B l < 16000000 → okS (some s7) = true → okS (some s8) = true → okS (some s9) = true → ∃ (T' : List D) (c' : Int) (s7' s8' s9' : Sl), T'.length = B.length ∧ okS (some s7') = true ∧ okS (some s8') = true ∧ okS (some s9') = true ∧
    forL (gNm 7) L2__law_pins (l.map .int) [.pu MP, .pu PL, .ow false (.li (B.map bkL)), .ow false (.li T), .ow false (.li S), .pu (.int r), .pu (.int c), s7, s8, s9] = .nx [.pu MP, .pu PL, .ow false (.li (B.map bkL)), .ow false (.li T'), .ow false (.li (S ++ ((placeRow B r c l).flatMap (pf B)).map pnD)), .pu (.int r), .pu (.int c'), s7', s8', s9']
  | [], c, T, S, s7, s8, s9, _, hT, _, q7, q8, q9 => ⟨T, c, s7, s8, s9, hT, q7, q8, q9, by simp [placeRow]⟩
  | x :: l, c, T, S, s7, s8, s9, h, hT, hk, q7, q8, q9 => by
    have hx0 := h x List.mem_cons_self
    have hk2 : S.length + ((B.getD x.toNat []).length + rowW' B l) < 16000000 := by simpa only [rowW', List.map_cons, List.sum_cons] using hk
    obtain ⟨t8, t9, u8, u9, e1⟩ := lp_bk (MP := MP) (PL := PL) (BK := .int x) (BL := .li (B.map bkL)) (T := T.set x.toNat (tp2 (r, c))) (r := r) (B.getD x.toNat []) c S s8 s9 (by omega) q8 q9
    obtain ⟨T', c', v7, v8, v9, hT', w7, w8, w9, e⟩ := lp_row (MP := MP) (PL := PL) (r := r) l (c + wd B x) (T.set x.toNat (tp2 (r, c))) (S ++ (bp (B.getD x.toNat []) r c).map pnD) (.pu (.int x)) t8 t9 (fun b hb => h b (List.mem_cons_of_mem _ hb)) (by rw [List.length_set]; exact hT) (by rw [List.length_append, List.length_map, bp_len]; omega) rfl u8 u9
    refine ⟨T', c', v7, v8, v9, hT', w7, w8, w9, ?_⟩
    have h1 : gNm 7 (.int x) [.pu MP, .pu PL, .ow false (.li (B.map bkL)), .ow false (.li T), .ow false (.li S), .pu (.int r), .pu (.int c), s7, s8, s9] = some [.pu MP, .pu PL, .ow false (.li (B.map bkL)), .ow false (.li T), .ow false (.li S), .pu (.int r), .pu (.int c), .pu (.int x), s8, s9] := by simp [setSl_ok, q7]
    have h2 : L2__law_pins [.pu MP, .pu PL, .ow false (.li (B.map bkL)), .ow false (.li T), .ow false (.li S), .pu (.int r), .pu (.int c), .pu (.int x), s8, s9] = .nx [.pu MP, .pu PL, .ow false (.li (B.map bkL)), .ow false (.li (T.set x.toNat (tp2 (r, c)))), .ow false (.li (S ++ (bp (B.getD x.toNat []) r c).map pnD)), .pu (.int r), .pu (.int (c + wd B x)), .pu (.int x), t8, t9] := by
      have hx : fIx (.list (B.map bkL)) (.int x) = some (.pu (bkL (B.getD x.toNat []))) := by show (L2.atI _ x).map Rs.pu = _; rw [bk_at bkL hx0.1 hx0.2]; rfl
      have hst : stL T (.int x) (tp2 (r, c)) = some (.li (T.set x.toNat (tp2 (r, c)))) := by
        have : L2.ixN T.length x = some x.toNat := by
          have := ixN_nat (n := T.length) (j := x.toNat) (by omega)
          rwa [Int.toNat_of_nonneg hx0.1] at this
        show (L2.ixN T.length x).map _ = _
        rw [this]; rfl
      have hw : wd B x = (((B.getD x.toNat []).length : Nat) : Int) := rfl
      have hbk : bkL (B.getD x.toNat []) = .list ((B.getD x.toNat []).map coD) := rfl
      rw [← hw] at e1
      rw [hbk] at hx
      generalize B.map bkL = BT at *
      generalize T.set x.toNat (tp2 (r, c)) = T1 at *
      generalize (bp (B.getD x.toNat []) r c).map pnD = PN at *
      generalize (B.getD x.toNat []).map coD = X at *
      generalize wd B x = W at *
      simp [-rg1_eq, -f_shl, -ap_range3, -List.map_replicate, ap_var, ap_retV, setSl_ok, fnOf_eq, bin1_eq, lc1_eq, okW, loose, wipeR, restR, lcE, wb1, wb2, wb3, wb4, wb5, wb6, wb7, L2__law_pins, hx, hst, e1]
    rw [List.map_cons, forL_cons, h1]
    dsimp only
    rw [h2]
    dsimp only
    rw [e]
    show _ = Mo.nx [_, _, _, _, Sl.ow false (Ct.li (S ++ (bp (B.getD x.toNat []) r c ++ (placeRow B r (c + wd B x) l).flatMap (pf B)).map pnD)), _, _, _, _, _]
    rw [List.map_append, List.append_assoc]
theorem arD_at {P : List (List Int)} {n : Nat} {l : List Int} (h : P[n]? = some l) : fIx (.tuple (P.map arD)) (.int (n : Int)) = some (.pu (arD l)) := by
  show (L2.atI _ _).map Rs.pu = _
  rw [at_m arD h]; rfl
theorem lp_rows {B : List Bk} {MP : D} {P : List (List Int)} : ∀ (Q : List (List Int)) (n : Nat) (T S : List D) (s5 s6 s7 s8 s9 : Sl), P.drop n = Q → (∀ l ∈ Q, ∀ b ∈ l, 0 ≤ b ∧ b < (B.length : Int)) → T.length = B.length → S.length + (Q.map (rowW' B)).sum < 16000000 → okS (some s5) = true → okS (some s6) = true → okS (some s7) = true → okS (some s8) = true → okS (some s9) = true → ∃ (T' : List D) (s5' s6' s7' s8' s9' : Sl),
    forL (gNm 5) L3__law_pins ((ksF n Q.length).map .int) [.pu MP, .pu (.tuple (P.map arD)), .ow false (.li (B.map bkL)), .ow false (.li T), .ow false (.li S), s5, s6, s7, s8, s9] = .nx [.pu MP, .pu (.tuple (P.map arD)), .ow false (.li (B.map bkL)), .ow false (.li T'), .ow false (.li (S ++ ((placeL B (n : Int) Q).flatMap (pf B)).map pnD)), s5', s6', s7', s8', s9']
  | [], n, T, S, s5, s6, s7, s8, s9, _, _, hT, _, _, _, _, _, _ => ⟨T, s5, s6, s7, s8, s9, by simp [placeL, ksF]⟩
  | l :: Q, n, T, S, s5, s6, s7, s8, s9, hd, h, hT, hk, q5, q6, q7, q8, q9 => by
    have hPn : P[n]? = some l := by
      have := congrArg (fun l : List (List Int) => l[0]?) hd
      simpa using this
    have hd2 : P.drop (n + 1) = Q := by rw [← List.tail_drop, hd]; rfl
    rw [List.map_cons, List.sum_cons] at hk
    obtain ⟨T1, c1, t7, t8, t9, hT1, u7, u8, u9, e1⟩ := lp_row (B := B) (MP := MP) (PL := .tuple (P.map arD)) (r := (n : Int)) l 0 T S s7 s8 s9 (h l List.mem_cons_self) hT (by omega) q7 q8 q9
    have hlen : ((placeRow B (n : Int) 0 l).flatMap (pf B)).length = rowW' B l := by
      unfold rowW'
      rw [List.length_flatMap]
      congr 1
      conv => rhs; rw [← placeRow_fst B (n : Int) l 0]
      rw [List.map_map]
      exact List.map_congr_left fun t _ => bp_len _ _ _
    obtain ⟨T', v5, v6, v7, v8, v9, e⟩ := lp_rows (B := B) (MP := MP) (P := P) Q (n + 1) T1 (S ++ ((placeRow B (n : Int) 0 l).flatMap (pf B)).map pnD) (.pu (.int (n : Int))) (.pu (.int c1)) t7 t8 t9 hd2 (fun l hl => h l (List.mem_cons_of_mem _ hl)) hT1 (by rw [List.length_append, List.length_map, hlen]; omega) rfl rfl u7 u8 u9
    refine ⟨T', v5, v6, v7, v8, v9, ?_⟩
    have h1 : gNm 5 (.int (n : Int)) [.pu MP, .pu (.tuple (P.map arD)), .ow false (.li (B.map bkL)), .ow false (.li T), .ow false (.li S), s5, s6, s7, s8, s9] = some [.pu MP, .pu (.tuple (P.map arD)), .ow false (.li (B.map bkL)), .ow false (.li T), .ow false (.li S), .pu (.int (n : Int)), s6, s7, s8, s9] := by simp [setSl_ok, q5]
    have h2 : L3__law_pins [.pu MP, .pu (.tuple (P.map arD)), .ow false (.li (B.map bkL)), .ow false (.li T), .ow false (.li S), .pu (.int (n : Int)), s6, s7, s8, s9] = .nx [.pu MP, .pu (.tuple (P.map arD)), .ow false (.li (B.map bkL)), .ow false (.li T1), .ow false (.li (S ++ ((placeRow B (n : Int) 0 l).flatMap (pf B)).map pnD)), .pu (.int (n : Int)), .pu (.int c1), t7, t8, t9] := by
      have hx := arD_at hPn
      have hl : arD l = .tuple (l.map .int) := rfl
      rw [hl] at hx
      generalize B.map bkL = BT at *
      generalize P.map arD = PD at *
      generalize l.map PyData.int = L at *
      generalize ((placeRow B (n : Int) 0 l).flatMap (pf B)).map pnD = PN at *
      generalize ((n : Nat) : Int) = N at *
      simp [-rg1_eq, -f_shl, -ap_range3, -List.map_replicate, ap_var, ap_retV, setSl_ok, fnOf_eq, bin1_eq, lc1_eq, okW, loose, wipeR, restR, lcE, wb1, wb2, wb3, wb4, wb5, wb6, wb7, L3__law_pins, hx, q6, e1]
    have hks : (ksF n (l :: Q).length).map PyData.int = .int (n : Int) :: (ksF (n + 1) Q.length).map PyData.int := rfl
    rw [hks, forL_cons, h1]
    dsimp only
    rw [h2]
    dsimp only
    rw [e]
    show _ = Mo.nx [_, _, _, _, Sl.ow false (Ct.li (S ++ ((placeRow B (n : Int) 0 l ++ placeL B ((n : Int) + 1) Q).flatMap (pf B)).map pnD)), _, _, _, _, _]
    rw [List.flatMap_append, List.map_append, List.append_assoc]
    rfl
theorem rowsW {B : List Bk} : ∀ (Q : List (List Int)), (Q.map (rowW' B)).sum = (Q.flatten.map fun b => (B.getD b.toNat []).length).sum
  | [] => rfl
  | l :: Q => by rw [List.map_cons, List.sum_cons, rowsW Q, List.flatten_cons, List.map_append, List.sum_append]; rfl
theorem widB_rg : ∀ (B : List Bk), ((rgI B.length).map fun b => (B.getD b.toNat []).length).sum = widB B := by
  intro B
  unfold rgI widB
  rw [List.map_map]
  congr 1
  refine List.ext_getElem (by simp) fun i h1 h2 => ?_
  simp at h1 h2 ⊢
  rw [List.getElem?_eq_getElem (by omega)]; rfl
theorem law_pins_ok {m : Mp} (hb : g__law_blocks [.pu (mpD m)] = .ret (.nw (.li ((bls m).map bkL))) [.pu (mpD m)]) {P : List (List Int)} (hp : P.flatten.Perm (rgI (bls m).length)) (hB : (bls m).length ≤ 100000) (hP : P.length ≤ 1000000) (hw : widB (bls m) ≤ 1000000) : ∃ T : List D,
    g__law_pins [.pu (mpD m), .pu (plD P)] = .ret (.pu (.tuple [.list ((pinsB (bls m) P).map pnD), .list T])) [.pu (mpD m), .pu (plD P)] := by
  have hsum : (P.map (rowW' (bls m))).sum = widB (bls m) := by
    rw [rowsW, ← widB_rg]
    exact (hp.map _).sum_nat
  obtain ⟨T', s5, s6, s7, s8, s9, e⟩ := lp_rows (B := bls m) (MP := mpD m) (P := P) P 0 ((List.replicate (bls m).length [PyData.none]).flatten) [] .no .no .no .no .no rfl (inRg (sortI_rg hp)) (by simp) (by simp only [List.length_nil]; omega) rfl rfl rfl rfl rfl
  refine ⟨T', ?_⟩
  have hpb : (placeL (bls m) ((0 : Nat) : Int) P).flatMap (pf (bls m)) = pinsB (bls m) P := rfl
  rw [hpb, ksF_rg, List.nil_append] at e
  have hrg := fun ρ => rg1_nat (n := P.length) (by omega) ρ
  rw [rgI_map] at hrg
  have hmul : fMulY (.list [.none]) (.int ((bls m).length : Int)) = some (.nw (.li ((List.replicate (bls m).length [PyData.none]).flatten))) := by
    show (if 0 ≤ ((bls m).length : Int) ∧ 1 * ((bls m).length : Int).toNat ≤ 16000000 ∧ ((bls m).length : Int).natAbs < 1000000 then _ else _) = _
    rw [if_pos ⟨by omega, by omega, by omega⟩, Int.toNat_natCast]
  have hlB : ((((bls m).map bkL).length : Nat) : Int) = ((bls m).length : Int) := by rw [List.length_map]
  have hlP : (((P.map arD).length : Nat) : Int) = (P.length : Int) := by rw [List.length_map]
  have hPl : plD P = .tuple (P.map arD) := rfl
  rw [hPl]
  generalize mpD m = MP at *
  generalize (pinsB (bls m) P).map pnD = PN at *
  generalize (List.replicate (bls m).length [PyData.none]).flatten = T0 at *
  generalize (rgI P.length).map PyData.int = RG at *
  generalize (bls m).map bkL = BT at *
  generalize P.map arD = PD at *
  generalize (P.length : Int) = LP at *
  generalize (((bls m).length : Nat) : Int) = LB at *
  simp [-rg1_eq, -f_shl, -ap_range3, -List.map_replicate, ap_var, ap_retV, setSl_ok, fnOf_eq, bin1_eq, lc1_eq, okW, loose, wipeR, restR, lcE, wb1, wb2, wb3, wb4, wb5, wb6, wb7, g__law_pins, b__law_pins, hb, hlB, hlP, hmul, hrg, e, len1_rf, -fy_l, -rg1_eq]
end K36
namespace K36
open PySem Ow PyProof.Rows
abbrev dI (l : List Int) : List D := l.map .int
theorem min1_eq (n : Int) (ns : List Int) : fMin1X [.list ((n :: ns).map PyData.int)] = some (.pu (.int (minI (n :: ns)))) := by
  show (match intsOf ((n :: ns).map PyData.int) with | some (n :: ns) => some (Rs.pu (.int (minI (n :: ns)))) | _ => none) = _
  rw [intsOf_map]
theorem max_l {l : List Int} (h : l ≠ []) : fMax1X [.list (dI l)] = some (.pu (.int (maxI l))) := by
  cases l with
  | nil => exact absurd rfl h
  | cons n ns => exact max1_eq n ns
theorem min_l {l : List Int} (h : l ≠ []) : fMin1X [.list (dI l)] = some (.pu (.int (minI l))) := by
  cases l with
  | nil => exact absurd rfl h
  | cons n ns => exact min1_eq n ns
theorem fix_first {l : List Int} (h : 0 < l.length) : fIx (.list (dI l)) (.int 0) = some (.pu (.int (l.getD 0 0))) := by
  cases l with
  | nil => simp at h
  | cons n ns =>
    show (L2.atI _ 0).map Rs.pu = _
    have : L2.atI (dI (n :: ns)) ((0 : Nat) : Int) = some (.int n) := at_m PyData.int (by rfl)
    rw [show (0 : Int) = ((0 : Nat) : Int) from rfl, this]; rfl
theorem fix_last {l : List Int} (h : 0 < l.length) : fIx (.list (dI l)) (.int (-1)) = some (.pu (.int (l.getD (l.length - 1) 0))) := by
  have h0 : l ≠ [] := fun e => by rw [e] at h; simp at h
  have e : l = l.dropLast ++ [l.getLast h0] := (List.dropLast_concat_getLast h0).symm
  have e2 : l.getD (l.length - 1) 0 = l.getLast h0 := by
    rw [List.getD_eq_getElem?_getD, List.getElem?_eq_getElem (by omega), List.getLast_eq_getElem]; rfl
  rw [e2]
  conv => lhs; rw [e]
  show (L2.atI (dI (l.dropLast ++ [l.getLast h0])) (-1)).map Rs.pu = _
  unfold dI
  rw [List.map_append]
  have := atI_last (l.dropLast.map PyData.int) (PyData.int (l.getLast h0))
  rw [List.map_cons, List.map_nil, this]; rfl
theorem ss_eq {l : List Int} (h1 : l.length < 4000) (h2 : (uniq l).length < 64) : fSS [.list (dI l)] = some (.nw (.li (dI (uniq l)))) := by
  show (match intsOf (l.map PyData.int) with | some ns => if ns.length < 4000 ∧ (uniq ns).length < 64 then some (Rs.nw (.li ((uniq ns).map PyData.int))) else none | none => none) = _
  rw [intsOf_map]
  dsimp only
  rw [if_pos ⟨h1, h2⟩]
/-- how long a growing row is -/
theorem lt_len {b : Int} : ∀ {l : List Int} (a : Int), l.Pairwise (· < ·) → (∀ x ∈ l, a ≤ x ∧ x < b) → (l.length : Int) ≤ max (b - a) 0
  | [], a, _, _ => by simp; omega
  | x :: l, a, h, hb => by
    obtain ⟨h1, h2⟩ := List.pairwise_cons.mp h
    have hx := hb x List.mem_cons_self
    have := lt_len (b := b) (x + 1) h2 fun y hy => ⟨by have := h1 y hy; omega, (hb y (List.mem_cons_of_mem _ hy)).2⟩
    rw [List.length_cons]; omega
theorem uniq_len {l : List Int} {b : Nat} (h : ∀ x ∈ l, 0 ≤ x ∧ x < (b : Int)) : (uniq l).length ≤ b := by
  have := lt_len (b := (b : Int)) (l := uniq l) 0 (uniq_lt l) fun x hx => h x (mem_uniq.mp hx)
  omega
theorem st1_flat {X : List (List D)} {ent : Int → D} {r : Int} (h : r.toNat < X.length) : (st1 ent X r).flatten.length = X.flatten.length + 1 := by
  unfold st1
  generalize r.toNat = j at *
  induction X generalizing j with
  | nil => simp at h
  | cons x X ih =>
    cases j with
    | zero => simp; omega
    | succ j =>
      have := ih (j := j) (by simpa using h)
      rw [List.set_cons_succ, List.flatten_cons, List.flatten_cons, List.length_append, List.length_append]
      have e : (x :: X).getD (j + 1) [] = X.getD j [] := rfl
      rw [e, this]; omega
theorem rowD_le {Q : List (List D)} {r : List D} (h : r ∈ Q) : r.length ≤ Q.flatten.length := by
  induction Q with
  | nil => cases h
  | cons q Q ih =>
    rw [List.flatten_cons, List.length_append]
    rcases List.mem_cons.mp h with rfl | h
    · omega
    · have := ih h; omega
/-- rows, told for each signal -/
structure Ent (Q : List Pn) (N : Nat) (s : Int) : Prop where
  rl : (rowsOf Q s).length < 4000
  rr : ∀ r ∈ rowsOf Q s, 0 ≤ r ∧ r < (N : Int)
  r0 : rowsOf Q s ≠ []
theorem Ent.met {Q : List Pn} {N : Nat} {s : Int} (h : Ent Q N s) : (metOf Q s).length ≤ N ∧ 0 < (metOf Q s).length := by
  refine ⟨uniq_len h.rr, ?_⟩
  obtain ⟨x, hx⟩ := List.exists_mem_of_ne_nil _ h.r0
  exact List.length_pos_iff.mpr fun e => by
    have := mem_uniq.mpr hx
    unfold metOf at e
    rw [e] at this
    cases this
/-! the law's spans -/
theorem ls_lc1 {PS : List Pn} {MP PL PN PC : D} {WL : Sl} {SP : Ct} {s r : Int} {X : Sl} {s8 s9 s11 s12 : Sl} : lcL [13] (gNm 13) T1__law_spans C2__law_spans (PS.map pnD) [.pu MP, .pu PL, .pu PN, .pu PC, WL, X, .ow false SP, .pu (.int s), s8, s9, .pu (.int r), s11, s12, .no] = .ok (dI ((PS.filter fun p : Pn => decide (p.2.2.1 = r)).map (fun p : Pn => p.2.2.2))) [.pu MP, .pu PL, .pu PN, .pu PC, WL, X, .ow false SP, .pu (.int s), s8, s9, .pu (.int r), s11, s12, .no] := by
  unfold dI
  rw [List.map_map]
  refine lcL_filter (k := pnD) (f := fun p : Pn => PyData.int p.2.2.2) fun p _ => ?_
  have h2 : fIx (pnD p) (.int 2) = some (.pu (.int p.2.2.1)) := rfl
  have h3 : fIx (pnD p) (.int 3) = some (.pu (.int p.2.2.2)) := rfl
  have he := eqInt p.2.2.1 r
  generalize pnD p = D0 at *
  refine ⟨[.pu MP, .pu PL, .pu PN, .pu PC, WL, X, .ow false SP, .pu (.int s), s8, s9, .pu (.int r), s11, s12, .pu D0], [.pu MP, .pu PL, .pu PN, .pu PC, WL, X, .ow false SP, .pu (.int s), s8, s9, .pu (.int r), s11, s12, .pu D0], by simp [setSl_ok], ?_, fun _ => ⟨[.pu MP, .pu PL, .pu PN, .pu PC, WL, X, .ow false SP, .pu (.int s), s8, s9, .pu (.int r), s11, s12, .pu D0], ?_, by simp [wipeR]⟩, fun _ => by simp [wipeR]⟩
  · simp [-rg1_eq, -f_shl, -ap_range3, -List.map_replicate, ap_var, ap_retV, setSl_ok, fnOf_eq, bin1_eq, lc1_eq, okW, loose, wipeR, restR, lcE, wb1, wb2, wb3, wb4, wb5, wb6, wb7, T1__law_spans, h2, he]
  · simp [-rg1_eq, -f_shl, -ap_range3, -List.map_replicate, ap_var, ap_retV, setSl_ok, fnOf_eq, bin1_eq, lc1_eq, okW, loose, wipeR, restR, lcE, wb1, wb2, wb3, wb4, wb5, wb6, wb7, C2__law_spans, h3]
theorem loose_nal {s : Sl} (h : loose (some s) = true) : notAl s = true := by cases s <;> first | rfl | cases h
theorem cutAl_n (i : Nat) {s : Sl} (h : notAl s = true) (ρ : Rho) : cutAl i (s :: ρ) = s :: cutAl i ρ := by cases s <;> first | rfl | cases h
theorem ls_in {Q : List Pn} {MP PL PN PC : D} {WL : D} {SP : Ct} {s : Int} (hm : (metOf Q s).length < 64) (hm0 : 0 < (metOf Q s).length) : ∀ (ms : List Int) (X : List (List D)) (s10 s12 : Sl), (∀ r ∈ ms, 0 ≤ r ∧ r.toNat < X.length ∧ colsOf Q s r ≠ []) → (mine Q s).length ≤ 1000000 → X.flatten.length + ms.length < 16000000 → loose (some s10) = true → okS (some s12) = true → notAl s12 = true → ∃ (s10' s12' : Sl), loose (some s10') = true ∧ okS (some s12') = true ∧ notAl s12' = true ∧
    forL (gNm 10) L1__law_spans (dI ms) [.pu MP, .pu PL, .pu PN, .pu PC, .pu WL, .ll (.li X), .ow false SP, .pu (.int s), .pu (.list ((mine Q s).map pnD)), .pu (.list (dI (metOf Q s))), s10, .no, s12, .no] = .nx [.pu MP, .pu PL, .pu PN, .pu PC, .pu WL, .ll (.li (ms.foldl (st1 (entOf Q s)) X)), .ow false SP, .pu (.int s), .pu (.list ((mine Q s).map pnD)), .pu (.list (dI (metOf Q s))), s10', .no, s12', .no]
  | [], X, s10, s12, _, _, _, q10, q12, n12 => ⟨s10, s12, q10, q12, n12, rfl⟩
  | r :: ms, X, s10, s12, h, hn, hk, q10, q12, n12 => by
    obtain ⟨r0, r1, hc⟩ := h r List.mem_cons_self
    rw [List.length_cons] at hk
    obtain ⟨t10, t12, u10, u12, w12, e⟩ := ls_in (MP := MP) (PL := PL) (PN := PN) (PC := PC) (WL := WL) (SP := SP) hm hm0 ms (st1 (entOf Q s) X r) (.pu (.int r)) (.ow false (.li (dI (colsOf Q s r)))) (fun x hx => by rw [st1_len]; exact h x (List.mem_cons_of_mem _ hx)) hn (by rw [st1_flat r1]; omega) rfl rfl rfl
    refine ⟨t10, t12, u10, u12, w12, ?_⟩
    have h1 : gNm 10 (.int r) [.pu MP, .pu PL, .pu PN, .pu PC, .pu WL, .ll (.li X), .ow false SP, .pu (.int s), .pu (.list ((mine Q s).map pnD)), .pu (.list (dI (metOf Q s))), s10, .no, s12, .no] = some [.pu MP, .pu PL, .pu PN, .pu PC, .pu WL, .ll (.li X), .ow false SP, .pu (.int s), .pu (.list ((mine Q s).map pnD)), .pu (.list (dI (metOf Q s))), .pu (.int r), .no, s12, .no] := by simp [setSl_ok, loose_okS q10]
    have h2 : L1__law_spans [.pu MP, .pu PL, .pu PN, .pu PC, .pu WL, .ll (.li X), .ow false SP, .pu (.int s), .pu (.list ((mine Q s).map pnD)), .pu (.list (dI (metOf Q s))), .pu (.int r), .no, s12, .no] = .nx [.pu MP, .pu PL, .pu PN, .pu PC, .pu WL, .ll (.li (st1 (entOf Q s) X r)), .ow false SP, .pu (.int s), .pu (.list ((mine Q s).map pnD)), .pu (.list (dI (metOf Q s))), .pu (.int r), .no, .ow false (.li (dI (colsOf Q s r))), .no] := by
      have e1 := fun s11 s12 => ls_lc1 (PS := mine Q s) (MP := MP) (PL := PL) (PN := PN) (PC := PC) (WL := .pu WL) (SP := SP) (s8 := .pu (.list ((mine Q s).map pnD))) (s9 := .pu (.list (dI (metOf Q s)))) (s := s) (r := r) (X := .ll (.li X)) (s11 := s11) (s12 := s12)
      have hcl : ((mine Q s).map pnD).length ≤ 16000000 := by rw [List.length_map]; omega
      have hcd : dI (((mine Q s).filter fun p : Pn => decide (p.2.2.1 = r)).map (fun p : Pn => p.2.2.2)) = dI (colsOf Q s r) := rfl
      rw [hcd] at e1
      have hmx := max_l hc
      have hmn := min_l hc
      have hmy : (((dI (metOf Q s)).length : Nat) : Int) = ((metOf Q s).length : Int) := by unfold dI; rw [List.length_map]
      have hi : L2.ixN X.length r = some r.toNat := by
        have := ixN_nat (n := X.length) (j := r.toNat) r1
        rwa [Int.toNat_of_nonneg r0] at this
      have hxj : X[r.toNat]? = some (X.getD r.toNat []) := by rw [List.getD_eq_getElem?_getD, List.getElem?_eq_getElem r1]; rfl
      have hxl : (X.getD r.toNat []).length < 16000000 := by
        have := rowD_le (List.mem_of_getElem? hxj); omega
      have hst : st1 (entOf Q s) X r = X.set r.toNat (X.getD r.toNat [] ++ [entOf Q s r]) := rfl
      rw [hst]
      unfold entOf
      by_cases q : 1 < (metOf Q s).length
      · rw [if_neg (by omega)]
        have q' : (1 : Int) < ((metOf Q s).length : Int) := by omega
        generalize (mine Q s).map pnD = PS at *
        generalize dI (colsOf Q s r) = CO at *
        generalize dI (metOf Q s) = MS at *
        generalize (((metOf Q s).length : Nat) : Int) = ML at *
        generalize X.getD r.toNat [] = XR at *
        generalize r.toNat = J at *
        generalize maxI (colsOf Q s r) = MX at *
        simp [-rg1_eq, -f_shl, -ap_range3, -List.map_replicate, ap_var, ap_retV, setSl_ok, fnOf_eq, bin1_eq, lc1_eq, okW, loose, wipeR, restR, lcE, wb1, wb2, wb3, wb4, wb5, wb6, wb7, L1__law_spans, e1, hcl, hmx, hmn, hmy, q', hi, hxj, hxl, q12, cutAl_n _ n12, cutAl_n _ (loose_nal q10), len1_rf, -List.map_set]
      · have q1 : (metOf Q s).length = 1 := by omega
        rw [if_pos q1]
        have q' : ¬ (1 : Int) < ((metOf Q s).length : Int) := by omega
        generalize minI (colsOf Q s r) = MI at *
        generalize (mine Q s).map pnD = PS at *
        generalize dI (colsOf Q s r) = CO at *
        generalize dI (metOf Q s) = MS at *
        generalize (((metOf Q s).length : Nat) : Int) = ML at *
        generalize X.getD r.toNat [] = XR at *
        generalize r.toNat = J at *
        generalize maxI (colsOf Q s r) = MX at *
        simp [-rg1_eq, -f_shl, -ap_range3, -List.map_replicate, ap_var, ap_retV, setSl_ok, fnOf_eq, bin1_eq, lc1_eq, okW, loose, wipeR, restR, lcE, wb1, wb2, wb3, wb4, wb5, wb6, wb7, L1__law_spans, e1, hcl, hmx, hmn, hmy, q', hi, hxj, hxl, q12, cutAl_n _ n12, cutAl_n _ (loose_nal q10), len1_rf, -List.map_set]
    show forL (gNm 10) L1__law_spans (.int r :: dI ms) _ = _
    rw [forL_cons, h1]
    dsimp only
    rw [h2]
    dsimp only
    rw [e]
    rfl
theorem ls_lc2 {QS : List Pn} {MP PL PC : D} {WL : Sl} {SP : Ct} {s : Int} {X s9 s10 s12 s8 : Sl} : lcL [13] (gNm 13) T2__law_spans C4__law_spans (QS.map pnD) [.pu MP, .pu PL, .pu (.list (QS.map pnD)), .pu PC, WL, X, .ow false SP, .pu (.int s), s8, s9, s10, .no, s12, .no] = .ok ((mine QS s).map pnD) [.pu MP, .pu PL, .pu (.list (QS.map pnD)), .pu PC, WL, X, .ow false SP, .pu (.int s), s8, s9, s10, .no, s12, .no] := by
  generalize hL : PyData.list (QS.map pnD) = L
  clear hL
  refine lcL_filter (f := pnD) fun p _ => ?_
  have h2 : fIx (pnD p) (.int 0) = some (.pu (.int p.1)) := rfl
  have he := eqInt p.1 s
  generalize pnD p = D0 at *
  refine ⟨[.pu MP, .pu PL, .pu L, .pu PC, WL, X, .ow false SP, .pu (.int s), s8, s9, s10, .no, s12, .pu D0], [.pu MP, .pu PL, .pu L, .pu PC, WL, X, .ow false SP, .pu (.int s), s8, s9, s10, .no, s12, .pu D0], by simp [setSl_ok], ?_, fun _ => ⟨[.pu MP, .pu PL, .pu L, .pu PC, WL, X, .ow false SP, .pu (.int s), s8, s9, s10, .no, s12, .pu D0], ?_, by simp [wipeR]⟩, fun _ => by simp [wipeR]⟩
  · simp [-rg1_eq, -f_shl, -ap_range3, -List.map_replicate, ap_var, ap_retV, setSl_ok, fnOf_eq, bin1_eq, lc1_eq, okW, loose, wipeR, restR, lcE, wb1, wb2, wb3, wb4, wb5, wb6, wb7, T2__law_spans, h2, he]
  · simp [-rg1_eq, -f_shl, -ap_range3, -List.map_replicate, ap_var, ap_retV, setSl_ok, fnOf_eq, bin1_eq, lc1_eq, okW, loose, wipeR, restR, lcE, wb1, wb2, wb3, wb4, wb5, wb6, wb7, C4__law_spans]
theorem ls_lc3 {QS : List Pn} {MP PL PN PC : D} {WL : Sl} {SP : Ct} {s : Int} {X s8 s9 s10 s12 : Sl} : lcL [13] (gNm 13) oYes C3__law_spans (QS.map pnD) [.pu MP, .pu PL, .pu PN, .pu PC, WL, X, .ow false SP, .pu (.int s), s8, s9, s10, .no, s12, .no] = .ok (dI (QS.map (fun p : Pn => p.2.2.1))) [.pu MP, .pu PL, .pu PN, .pu PC, WL, X, .ow false SP, .pu (.int s), s8, s9, s10, .no, s12, .no] := by
  unfold dI
  rw [List.map_map]
  refine lcL_map (k := pnD) (f := fun p : Pn => PyData.int p.2.2.1) fun p _ => ?_
  have h2 : fIx (pnD p) (.int 2) = some (.pu (.int p.2.2.1)) := rfl
  generalize pnD p = D0 at *
  refine ⟨[.pu MP, .pu PL, .pu PN, .pu PC, WL, X, .ow false SP, .pu (.int s), s8, s9, s10, .no, s12, .pu D0], [.pu MP, .pu PL, .pu PN, .pu PC, WL, X, .ow false SP, .pu (.int s), s8, s9, s10, .no, s12, .pu D0], by simp [setSl_ok], ?_, by simp [wipeR]⟩
  simp [-rg1_eq, -f_shl, -ap_range3, -List.map_replicate, ap_var, ap_retV, setSl_ok, fnOf_eq, bin1_eq, lc1_eq, okW, loose, wipeR, restR, lcE, wb1, wb2, wb3, wb4, wb5, wb6, wb7, C3__law_spans, h2]
theorem stS_flat {met : Int → List Int} {ent : Int → Int → D} {s : Int} : ∀ {X : List (List D)}, (∀ r ∈ met s, r.toNat < X.length) → (stS met ent X s).flatten.length = X.flatten.length + (met s).length := by
  unfold stS
  generalize met s = l
  induction l with
  | nil => intro X _; rfl
  | cons r l ih =>
    intro X h
    rw [List.foldl_cons, ih (fun x hx => by rw [st1_len]; exact h x (List.mem_cons_of_mem _ hx)), st1_flat (h r List.mem_cons_self), List.length_cons]
    omega
theorem metR {Q : List Pn} {N : Nat} {s : Int} (h : Ent Q N s) : ∀ r ∈ metOf Q s, 0 ≤ r ∧ r.toNat < N ∧ colsOf Q s r ≠ [] := fun r hr => by
  have hr' : r ∈ rowsOf Q s := mem_uniq.mp hr
  have := h.rr r hr'
  exact ⟨this.1, by omega, mem_rowsOf.mp hr'⟩
theorem ls_out {Q : List Pn} {N : Nat} (hN : N < 60) {MP PL PC : D} {WL : D} (hQ : Q.length < 4000) : ∀ (wl : List Int) (X : List (List D)) (SP : List D) (s7 s8 s9 s10 s12 : Sl), (∀ s ∈ wl, Ent Q N s) → X.length = N → X.flatten.length + 64 * wl.length < 1000000 → SP.length + wl.length < 1000000 → loose (some s7) = true → loose (some s8) = true → loose (some s9) = true → loose (some s10) = true → okS (some s12) = true → notAl s12 = true → ∃ (s7' s8' s9' s10' s12' : Sl), loose (some s10') = true ∧ (notAl s7' = true ∧ notAl s8' = true ∧ notAl s9' = true ∧ notAl s12' = true) ∧
    forL (gNm 7) L2__law_spans (dI wl) [.pu MP, .pu PL, .pu (.list (Q.map pnD)), .pu PC, .pu WL, .ll (.li X), .ow false (.li SP), s7, s8, s9, s10, .no, s12, .no] = .nx [.pu MP, .pu PL, .pu (.list (Q.map pnD)), .pu PC, .pu WL, .ll (.li (wl.foldl (stS (metOf Q) (entOf Q)) X)), .ow false (.li (SP ++ wl.flatMap (spn (metOf Q)))), s7', s8', s9', s10', .no, s12', .no]
  | [], X, SP, s7, s8, s9, s10, s12, _, _, _, _, q7, q8, q9, q10, _, n12 => ⟨s7, s8, s9, s10, s12, q10, ⟨loose_nal q7, loose_nal q8, loose_nal q9, n12⟩, by simp⟩
  | s :: wl, X, SP, s7, s8, s9, s10, s12, h, hX, hk, hk2, q7, q8, q9, q10, q12, n12 => by
    have hE := h s List.mem_cons_self
    have hm := hE.met
    have hR := metR hE
    rw [List.length_cons] at hk hk2
    have hlm : (mine Q s).length ≤ Q.length := List.length_filter_le _ _
    obtain ⟨t10, t12, u10, u12, w12, e1⟩ := ls_in (MP := MP) (PL := PL) (PN := .list (Q.map pnD)) (PC := PC) (WL := WL) (SP := .li SP) (Q := Q) (s := s) (by omega) hm.2 (metOf Q s) X s10 s12 (by rw [hX]; exact hR) (by omega) (by omega) q10 q12 n12
    have hfl := stS_flat (met := metOf Q) (ent := entOf Q) (s := s) (X := X) (fun r hr => by rw [hX]; exact (hR r hr).2.1)
    have hsp : (spn (metOf Q) s).length ≤ 1 := by unfold spn; split <;> simp
    obtain ⟨v7, v8, v9, v10, v12, w10, wn, e⟩ := ls_out hN (MP := MP) (PL := PL) (PC := PC) (WL := WL) hQ wl (stS (metOf Q) (entOf Q) X s) (SP ++ spn (metOf Q) s) (.pu (.int s)) (.pu (.list ((mine Q s).map pnD))) (.pu (.list (dI (metOf Q s)))) t10 t12 (fun x hx => h x (List.mem_cons_of_mem _ hx)) (by rw [stS_len, hX]) (by omega) (by rw [List.length_append]; omega) rfl rfl rfl u10 u12 w12
    refine ⟨v7, v8, v9, v10, v12, w10, wn, ?_⟩
    have h1 : gNm 7 (.int s) [.pu MP, .pu PL, .pu (.list (Q.map pnD)), .pu PC, .pu WL, .ll (.li X), .ow false (.li SP), s7, s8, s9, s10, .no, s12, .no] = some [.pu MP, .pu PL, .pu (.list (Q.map pnD)), .pu PC, .pu WL, .ll (.li X), .ow false (.li SP), .pu (.int s), s8, s9, s10, .no, s12, .no] := by simp [setSl_ok, loose_okS q7]
    have h2 : L2__law_spans [.pu MP, .pu PL, .pu (.list (Q.map pnD)), .pu PC, .pu WL, .ll (.li X), .ow false (.li SP), .pu (.int s), s8, s9, s10, .no, s12, .no] = .nx [.pu MP, .pu PL, .pu (.list (Q.map pnD)), .pu PC, .pu WL, .ll (.li (stS (metOf Q) (entOf Q) X s)), .ow false (.li (SP ++ spn (metOf Q) s)), .pu (.int s), .pu (.list ((mine Q s).map pnD)), .pu (.list (dI (metOf Q s))), t10, .no, t12, .no] := by
      have a1 := fun X s8 s9 s10 s12 => ls_lc2 (QS := Q) (MP := MP) (PL := PL) (PC := PC) (WL := .pu WL) (SP := .li SP) (s := s) (X := X) (s8 := s8) (s9 := s9) (s10 := s10) (s12 := s12)
      have a2 := fun X s9 s10 s12 => ls_lc3 (QS := mine Q s) (MP := MP) (PL := PL) (PN := .list (Q.map pnD)) (PC := PC) (WL := .pu WL) (SP := .li SP) (s8 := .pu (.list ((mine Q s).map pnD))) (s := s) (X := X) (s9 := s9) (s10 := s10) (s12 := s12)
      have b1 : ((mine Q s).map pnD).length ≤ 16000000 := by rw [List.length_map]; omega
      have b2 : (Q.map pnD).length ≤ 16000000 := by rw [List.length_map]; omega
      have hro : (mine Q s).map (·.2.2.1) = rowsOf Q s := rfl
      rw [hro] at a2
      have a3 : fSS [.list (dI (rowsOf Q s))] = some (.nw (.li (dI (metOf Q s)))) := ss_eq hE.rl (by show (metOf Q s).length < 64; omega)
      have hmy : (((dI (metOf Q s)).length : Nat) : Int) = ((metOf Q s).length : Int) := by unfold dI; rw [List.length_map]
      have f0 := fix_first hm.2
      have f1 := fix_last hm.2
      have hS : SP.length < 16000000 := by omega
      have hst : (metOf Q s).foldl (st1 (entOf Q s)) X = stS (metOf Q) (entOf Q) X s := rfl
      rw [hst] at e1
      unfold spn
      by_cases q : 1 < (metOf Q s).length
      · rw [if_pos q]
        have q' : (1 : Int) < ((metOf Q s).length : Int) := by omega
        generalize (mine Q s).map pnD = PS at *
        generalize Q.map pnD = QD at *
        generalize dI (metOf Q s) = MS at *
        generalize dI (rowsOf Q s) = RS at *
        generalize (((metOf Q s).length : Nat) : Int) = ML at *
        generalize stS (metOf Q) (entOf Q) X s = X' at *
        generalize (metOf Q s).getD 0 0 = M0 at *
        generalize (metOf Q s).getD ((metOf Q s).length - 1) 0 = M1 at *
        simp [-rg1_eq, -f_shl, -ap_range3, -List.map_replicate, ap_var, ap_retV, setSl_ok, fnOf_eq, bin1_eq, lc1_eq, okW, loose, wipeR, restR, lcE, wb1, wb2, wb3, wb4, wb5, wb6, wb7, L2__law_spans, a1, a2, b1, b2, a3, e1, hmy, q', f0, f1, hS, loose_okS q8, loose_okS q9]
      · rw [if_neg q, List.append_nil]
        have q' : ¬ (1 : Int) < ((metOf Q s).length : Int) := by omega
        generalize (mine Q s).map pnD = PS at *
        generalize Q.map pnD = QD at *
        generalize dI (metOf Q s) = MS at *
        generalize dI (rowsOf Q s) = RS at *
        generalize (((metOf Q s).length : Nat) : Int) = ML at *
        generalize stS (metOf Q) (entOf Q) X s = X' at *
        simp [-rg1_eq, -f_shl, -ap_range3, -List.map_replicate, ap_var, ap_retV, setSl_ok, fnOf_eq, bin1_eq, lc1_eq, okW, loose, wipeR, restR, lcE, wb1, wb2, wb3, wb4, wb5, wb6, wb7, L2__law_spans, a1, a2, b1, b2, a3, e1, hmy, q', loose_okS q8, loose_okS q9]
    show forL (gNm 7) L2__law_spans (.int s :: dI wl) _ = _
    rw [forL_cons, h1]
    dsimp only
    rw [h2]
    dsimp only
    rw [e]
    show _ = Mo.nx [_, _, _, _, _, _, Sl.ow false (Ct.li (SP ++ (spn (metOf Q) s ++ wl.flatMap (spn (metOf Q))))), _, _, _, _, _, _, _]
    rw [List.append_assoc]
    rfl
def wlB (Q : List Pn) : List Int := uniq ((Q.filter fun p => decide (p.2.1 = 0)).map (·.1))
def resD (wl : List Int) (met : Int → List Int) (ent : Int → Int → D) (N : Nat) : D := .tuple [.tuple ((wl.foldl (stS met ent) (List.replicate N [])).map .tuple), .tuple (wl.flatMap (spn met))]
theorem ls_lc0 {QS : List Pn} {MP PL PC : D} : lcL [13] (gNm 13) T3__law_spans C6__law_spans (QS.map pnD) [.pu MP, .pu PL, .pu (.list (QS.map pnD)), .pu PC, .no, .no, .no, .no, .no, .no, .no, .no, .no, .no] = .ok (dI ((QS.filter fun p : Pn => decide (p.2.1 = 0)).map (fun p : Pn => p.1))) [.pu MP, .pu PL, .pu (.list (QS.map pnD)), .pu PC, .no, .no, .no, .no, .no, .no, .no, .no, .no, .no] := by
  generalize hL : PyData.list (QS.map pnD) = L
  clear hL
  unfold dI
  rw [List.map_map]
  refine lcL_filter (k := pnD) (f := fun p : Pn => PyData.int p.1) fun p _ => ?_
  have h2 : fIx (pnD p) (.int 1) = some (.pu (.int p.2.1)) := rfl
  have h3 : fIx (pnD p) (.int 0) = some (.pu (.int p.1)) := rfl
  have he := eqInt p.2.1 0
  generalize pnD p = D0 at *
  refine ⟨[.pu MP, .pu PL, .pu L, .pu PC, .no, .no, .no, .no, .no, .no, .no, .no, .no, .pu D0], [.pu MP, .pu PL, .pu L, .pu PC, .no, .no, .no, .no, .no, .no, .no, .no, .no, .pu D0], by simp [setSl_ok], ?_, fun _ => ⟨[.pu MP, .pu PL, .pu L, .pu PC, .no, .no, .no, .no, .no, .no, .no, .no, .no, .pu D0], ?_, by simp [wipeR]⟩, fun _ => by simp [wipeR]⟩
  · simp [-rg1_eq, -f_shl, -ap_range3, -List.map_replicate, ap_var, ap_retV, setSl_ok, fnOf_eq, bin1_eq, lc1_eq, okW, loose, wipeR, restR, lcE, wb1, wb2, wb3, wb4, wb5, wb6, wb7, T3__law_spans, h2, he]
  · simp [-rg1_eq, -f_shl, -ap_range3, -List.map_replicate, ap_var, ap_retV, setSl_ok, fnOf_eq, bin1_eq, lc1_eq, okW, loose, wipeR, restR, lcE, wb1, wb2, wb3, wb4, wb5, wb6, wb7, C6__law_spans, h3]
theorem ls_new {MP PL PN PC : D} {WL : Sl} : ∀ (ds : List D), lcL [11] (gNm 11) oYes (oNewL C5__law_spans) ds [.pu MP, .pu PL, .pu PN, .pu PC, WL, .no, .no, .no, .no, .no, .no, .no, .no, .no] = .ok ((List.replicate ds.length ([] : List D)).map PyData.list) [.pu MP, .pu PL, .pu PN, .pu PC, WL, .no, .no, .no, .no, .no, .no, .no, .no, .no] := fun ds => by
  have := lcL_map (vs := [11]) (g := gNm 11) (oe := oNewL C5__law_spans) (ρ := [.pu MP, .pu PL, .pu PN, .pu PC, WL, .no, .no, .no, .no, .no, .no, .no, .no, .no]) (k := id) (f := fun _ => .list []) (l := ds) fun d _ => ⟨[.pu MP, .pu PL, .pu PN, .pu PC, WL, .no, .no, .no, .no, .no, .no, .pu d, .no, .no], [.pu MP, .pu PL, .pu PN, .pu PC, WL, .no, .no, .no, .no, .no, .no, .pu d, .no, .no], by simp [setSl_ok], by simp [-rg1_eq, -f_shl, -ap_range3, -List.map_replicate, ap_var, ap_retV, setSl_ok, fnOf_eq, bin1_eq, lc1_eq, okW, loose, wipeR, restR, lcE, wb1, wb2, wb3, wb4, wb5, wb6, wb7, C5__law_spans], by simp [wipeR]⟩
  rw [List.map_id] at this
  rw [this, List.map_replicate]
  congr 1
  exact List.map_const' ..
theorem ls_end {MP PL PN PC : D} {WL : Sl} {SP : Ct} {s5 s7 s8 s9 s12 : Sl} (X : List (List D)) : lcL [10] (gNm 10) oYes C1__law_spans (X.map PyData.list) [.pu MP, .pu PL, .pu PN, .pu PC, WL, s5, .ow false SP, s7, s8, s9, .no, .no, s12, .no] = .ok (X.map .tuple) [.pu MP, .pu PL, .pu PN, .pu PC, WL, s5, .ow false SP, s7, s8, s9, .no, .no, s12, .no] := by
  refine lcL_map (f := PyData.tuple) fun xs _ => ⟨[.pu MP, .pu PL, .pu PN, .pu PC, WL, s5, .ow false SP, s7, s8, s9, .pu (.list xs), .no, s12, .no], [.pu MP, .pu PL, .pu PN, .pu PC, WL, s5, .ow false SP, s7, s8, s9, .pu (.list xs), .no, s12, .no], by simp [setSl_ok], ?_, by simp [wipeR]⟩
  simp [-rg1_eq, -f_shl, -ap_range3, -List.map_replicate, ap_var, ap_retV, setSl_ok, fnOf_eq, bin1_eq, lc1_eq, okW, loose, wipeR, restR, lcE, wb1, wb2, wb3, wb4, wb5, wb6, wb7, C1__law_spans]
end K36
namespace K36
open PySem Ow PyProof.Rows
theorem rep_flat (n : Nat) : (List.replicate n ([] : List D)).flatten = [] := by
  induction n with
  | zero => rfl
  | succ n ih => rw [List.replicate_succ, List.flatten_cons, ih]; rfl
theorem law_spans_ok {m : Mp} {P : List (List Int)} {T : List D} {Q : List Pn} (hp : g__law_pins [.pu (mpD m), .pu (plD P)] = .ret (.pu (.tuple [.list (Q.map pnD), .list T])) [.pu (mpD m), .pu (plD P)])
    (hN : P.length < 60) (hQ : Q.length < 4000) (hw : (wlB Q).length < 64) (hE : ∀ s ∈ wlB Q, Ent Q P.length s) :
    g__law_spans [.pu (mpD m), .pu (plD P)] = .ret (.pu (resD (wlB Q) (metOf Q) (entOf Q) P.length)) [.pu (mpD m), .pu (plD P)] := by
  have a0 := ls_lc0 (QS := Q) (MP := mpD m) (PL := plD P) (PC := .list T)
  have hss : fSS [.list (dI ((Q.filter fun p : Pn => decide (p.2.1 = 0)).map (fun p : Pn => p.1)))] = some (.nw (.li (dI (wlB Q)))) := ss_eq (by rw [List.length_map]; exact Nat.lt_of_le_of_lt (List.length_filter_le _ _) hQ) hw
  have a1 := ls_new (MP := mpD m) (PL := plD P) (PN := .list (Q.map pnD)) (PC := .list T) (WL := .ow false (.li (dI (wlB Q)))) (P.map arD)
  rw [List.length_map] at a1
  obtain ⟨s7, s8, s9, s10, s12, q10, ⟨n7, n8, n9, n12⟩, e⟩ := ls_out hN (MP := mpD m) (PL := plD P) (PC := .list T) (WL := .list (dI (wlB Q))) hQ (wlB Q) (List.replicate P.length []) [] .no .no .no .no .no hE (by simp) (by rw [rep_flat]; simp only [List.length_nil]; omega) (by simp only [List.length_nil]; omega) rfl rfl rfl rfl rfl rfl
  rw [List.nil_append] at e
  have hlX : ((wlB Q).foldl (stS (metOf Q) (entOf Q)) (List.replicate P.length [])).length = P.length := by
    have : ∀ (l : List Int) (X : List (List D)), (l.foldl (stS (metOf Q) (entOf Q)) X).length = X.length := by
      intro l
      induction l with
      | nil => intro X; rfl
      | cons s l ih => intro X; rw [List.foldl_cons, ih, stS_len]
    rw [this, List.length_replicate]
  have b1 : (Q.map pnD).length ≤ 16000000 := by rw [List.length_map]; omega
  have b2 : (P.map arD).length ≤ 16000000 := by rw [List.length_map]; omega
  have b3 : ((wlB Q).foldl (stS (metOf Q) (entOf Q)) (List.replicate P.length [])).length ≤ 16000000 := by rw [hlX]; omega
  have e9 := fun s4 s5 => ls_end (MP := mpD m) (PL := plD P) (PN := .list (Q.map pnD)) (PC := .list T) (WL := s4) (SP := .li ((wlB Q).flatMap (spn (metOf Q)))) (s5 := s5) (s7 := s7) (s8 := s8) (s9 := s9) (s12 := s12) ((wlB Q).foldl (stS (metOf Q) (entOf Q)) (List.replicate P.length []))
  have ok10 : ∀ (s0 s1 s2 s3 s4 s5 s6 s7 s8 s9 s11 s12 s13 : Sl), okW [s0, s1, s2, s3, s4, s5, s6, s7, s8, s9, s10, s11, s12, s13] [10] = true := fun _ _ _ _ _ _ _ _ _ _ _ _ _ => by simpa [okW] using q10
  have hR : resD (wlB Q) (metOf Q) (entOf Q) P.length = .tuple [.tuple (((wlB Q).foldl (stS (metOf Q) (entOf Q)) (List.replicate P.length [])).map .tuple), .tuple ((wlB Q).flatMap (spn (metOf Q)))] := rfl
  rw [hR]
  have hPl : plD P = .tuple (P.map arD) := rfl
  rw [hPl] at a0 a1 e e9 hp ⊢
  generalize mpD m = MP at *
  generalize Q.map pnD = QD at *
  generalize (wlB Q).foldl (stS (metOf Q) (entOf Q)) (List.replicate P.length []) = XX at *
  generalize XX.map PyData.tuple = XT at *
  generalize (wlB Q).flatMap (spn (metOf Q)) = SP at *
  generalize dI (wlB Q) = WL at *
  generalize dI ((Q.filter fun p : Pn => decide (p.2.1 = 0)).map (fun p : Pn => p.1)) = D0 at *
  generalize List.replicate P.length ([] : List D) = RP at *
  generalize P.map arD = PD at *
  simp [-rg1_eq, -f_shl, -ap_range3, -List.map_replicate, ap_var, ap_retV, setSl_ok, fnOf_eq, bin1_eq, lc1_eq, okW, loose, wipeR, restR, lcE, wb1, wb2, wb3, wb4, wb5, wb6, wb7, g__law_spans, b__law_spans, hp, a0, b1, hss, mkLL1_eq, b2, a1, e, ok10, e9, b3, cutAl_n _ n7, cutAl_n _ n8, cutAl_n _ n9, cutAl_n _ n12, cutAl_n _ (loose_nal q10), -okW, len1_rf, -List.map_replicate]
end K36
namespace K36
open PySem Ow PyProof.Rows
theorem foS_len (acc : List Int) (x : Int) : (foS acc x).length ≤ acc.length + 1 := by
  unfold foS
  split
  · omega
  · simp
theorem fo_len : ∀ (l : List Int) (acc : List Int), (l.foldl foS acc).length ≤ acc.length + l.length
  | [], acc => Nat.le_refl _
  | x :: l, acc => by
    have h1 := fo_len l (foS acc x)
    have h2 := foS_len acc x
    rw [List.foldl_cons, List.length_cons]; omega
theorem fo_uniq (l : List Int) : (fo l).length = (uniq l).length := by rw [← sort_fo, (sortI_perm _).length_eq]
theorem mine_len (Q : List Pn) (s : Int) : (mine Q s).length ≤ Q.length := List.length_filter_le _ _
theorem dd_len {Q : List Pn} (h : Q.length < 16000000) : (ddD Q).length < 16000000 ∧ ((ddD Q).all fun m => decide (m.2.length < 16000000) && m.2.all fun x => decide (x.2.length < 16000000)) = true := by
  constructor
  · have := fo_len (sgs Q) []
    unfold ddD
    rw [List.length_map]
    unfold sgs at this ⊢
    rw [List.length_map] at this
    simp only [List.length_nil] at this
    unfold fo; omega
  · rw [List.all_eq_true]
    intro m hm
    obtain ⟨s, _, rfl⟩ := List.mem_map.mp hm
    have h1 := mine_len Q s
    have h2 := fo_len (rowsOf Q s) []
    simp only [List.length_nil] at h2
    have h3 : (rowsOf Q s).length = (mine Q s).length := List.length_map _
    rw [Bool.and_eq_true]
    constructor
    · simp only [inD, List.length_map, decide_eq_true_eq]
      unfold fo; omega
    · rw [List.all_eq_true]
      intro x hx
      obtain ⟨r, _, rfl⟩ := List.mem_map.mp hx
      have : (colsOf Q s r).length ≤ (mine Q s).length := by unfold colsOf; rw [List.length_map]; exact List.length_filter_le _ _
      simp only [List.length_map, decide_eq_true_eq]
      omega
theorem so_fill {W : Int → Bool} {kw : List (L2.Key × D)} (hW : ∀ s, (valD kw (.inl s)).isSome = W s) {MP PL : D} : ∀ (ps : List Pn) (Q : List Pn) (s4 s5 s6 s7 : Sl), Q.length + ps.length < 16000000 → loose (some s4) = true → loose (some s5) = true → loose (some s6) = true → loose (some s7) = true → ∃ (s4' s5' s6' s7' : Sl), loose (some s4') = true ∧ loose (some s5') = true ∧ loose (some s6') = true ∧ loose (some s7') = true ∧
    forL (gTp 4 (gCn (gNm 4) (gCn (gNm 5) (gCn (gNm 6) (gCn (gNm 7) gNl))))) L3_spans_of (ps.map pnD) [.pu MP, .pu PL, .ow false (.dk kw), .ll (.dd (ddD Q)), s4, s5, s6, s7, .no, .no, .no, .no] = .nx [.pu MP, .pu PL, .ow false (.dk kw), .ll (.dd (ddD (Q ++ ps.filter fun p => W p.1))), s4', s5', s6', s7', .no, .no, .no, .no]
  | [], Q, s4, s5, s6, s7, _, q4, q5, q6, q7 => ⟨s4, s5, s6, s7, q4, q5, q6, q7, by simp⟩
  | p :: ps, Q, s4, s5, s6, s7, hk, q4, q5, q6, q7 => by
    rw [List.length_cons] at hk
    have h1 : gTp 4 (gCn (gNm 4) (gCn (gNm 5) (gCn (gNm 6) (gCn (gNm 7) gNl)))) (pnD p) [.pu MP, .pu PL, .ow false (.dk kw), .ll (.dd (ddD Q)), s4, s5, s6, s7, .no, .no, .no, .no] = some [.pu MP, .pu PL, .ow false (.dk kw), .ll (.dd (ddD Q)), .pu (.int p.1), .pu (.int p.2.1), .pu (.int p.2.2.1), .pu (.int p.2.2.2), .no, .no, .no, .no] := by simp [setSl_ok, loose_okS q4, loose_okS q5, loose_okS q6, loose_okS q7, pnD]
    obtain ⟨hc1, hc2⟩ := dd_len (Q := Q) (by omega)
    have hw := hW p.1
    by_cases h : W p.1 = true
    · rw [h] at hw
      obtain ⟨t4, t5, t6, t7, u4, u5, u6, u7, e⟩ := so_fill hW (MP := MP) (PL := PL) ps (Q ++ [p]) (.pu (.int p.1)) (.pu (.int p.2.1)) (.pu (.int p.2.2.1)) (.pu (.int p.2.2.2)) (by simp; omega) rfl rfl rfl rfl
      refine ⟨t4, t5, t6, t7, u4, u5, u6, u7, ?_⟩
      have h2 : L3_spans_of [.pu MP, .pu PL, .ow false (.dk kw), .ll (.dd (ddD Q)), .pu (.int p.1), .pu (.int p.2.1), .pu (.int p.2.2.1), .pu (.int p.2.2.2), .no, .no, .no, .no] = .nx [.pu MP, .pu PL, .ow false (.dk kw), .ll (.dd (ddD (Q ++ [p]))), .pu (.int p.1), .pu (.int p.2.1), .pu (.int p.2.2.1), .pu (.int p.2.2.2), .no, .no, .no, .no] := by
        rw [← ddD_snoc]
        generalize ddD Q = DD at *
        simp [-rg1_eq, -f_shl, -ap_range3, -List.map_replicate, ap_var, ap_retV, setSl_ok, fnOf_eq, bin1_eq, lc1_eq, okW, loose, wipeR, restR, lcE, wb1, wb2, wb3, wb4, wb5, wb6, wb7, L3_spans_of, hw, keyOf, hc1, hc2, -List.all_eq_true]
      rw [List.map_cons, forL_cons, h1]
      dsimp only
      rw [h2]
      dsimp only
      rw [e, List.append_assoc, List.filter_cons, if_pos h]
      rfl
    · have h' : W p.1 = false := by simpa using h
      rw [h'] at hw
      obtain ⟨t4, t5, t6, t7, u4, u5, u6, u7, e⟩ := so_fill hW (MP := MP) (PL := PL) ps Q (.pu (.int p.1)) (.pu (.int p.2.1)) (.pu (.int p.2.2.1)) (.pu (.int p.2.2.2)) (by omega) rfl rfl rfl rfl
      refine ⟨t4, t5, t6, t7, u4, u5, u6, u7, ?_⟩
      have h2 : L3_spans_of [.pu MP, .pu PL, .ow false (.dk kw), .ll (.dd (ddD Q)), .pu (.int p.1), .pu (.int p.2.1), .pu (.int p.2.2.1), .pu (.int p.2.2.2), .no, .no, .no, .no] = .nx [.pu MP, .pu PL, .ow false (.dk kw), .ll (.dd (ddD Q)), .pu (.int p.1), .pu (.int p.2.1), .pu (.int p.2.2.1), .pu (.int p.2.2.2), .no, .no, .no, .no] := by
        generalize ddD Q = DD at *
        simp [-rg1_eq, -f_shl, -ap_range3, -List.map_replicate, ap_var, ap_retV, setSl_ok, fnOf_eq, bin1_eq, lc1_eq, okW, loose, wipeR, restR, lcE, wb1, wb2, wb3, wb4, wb5, wb6, wb7, L3_spans_of, hw, keyOf]
      rw [List.map_cons, forL_cons, h1]
      dsimp only
      rw [h2]
      dsimp only
      rw [e, List.filter_cons, if_neg h]
theorem noLL_l {s : Sl} (h : loose (some s) = true) (ρ : Rho) : noLL (s :: ρ) = noLL ρ := by cases s <;> first | rfl | cases h
/-! the still dict -/
def dsD (Q : List Pn) (s : Int) : D := dcD ((fo (rowsOf Q s)).map fun r => (.int r, .list (dI (colsOf Q s r))))
theorem nt_dd (Q : List Pn) : ntD (.dd (ddD Q)) = dcD ((fo (sgs Q)).map fun s => (.int s, dsD Q s)) := by
  show dcD ((ddD Q).map fun m => (keyD m.1, dcD (m.2.map fun x => (keyD x.1, .list x.2)))) = _
  unfold ddD
  rw [List.map_map]
  have : ((fun m : L2.Key × List (L2.Key × List D) => (keyD m.1, dcD (m.2.map fun x => (keyD x.1, PyData.list x.2)))) ∘ fun s => ((Sum.inl s : L2.Key), inD Q s)) = fun s => (PyData.int s, dsD Q s) := by
    funext s
    show (PyData.int s, dcD ((inD Q s).map _)) = _
    unfold inD
    rw [List.map_map]
    rfl
  rw [this]
theorem dd_ix {Q : List Pn} {s : Int} (h : s ∈ sgs Q) : fIxF (ntD (.dd (ddD Q))) (.int s) = some (.pu (dsD Q s)) := by
  rw [nt_dd]
  show (lookK _ (.inl s)).map Rs.pu = _
  rw [look_map (dsD Q) (fo_mem.mpr h)]; rfl
theorem ds_ix {Q : List Pn} {s r : Int} (h : r ∈ rowsOf Q s) : fIxF (dsD Q s) (.int r) = some (.pu (.list (dI (colsOf Q s r)))) := by
  show (lookK _ (.inl r)).map Rs.pu = _
  rw [look_map (fun r => .list (dI (colsOf Q s r))) (fo_mem.mpr h)]; rfl
theorem dd_sort {Q : List Pn} (h : (uniq (sgs Q)).length < 64) : fSortF [ntD (.dd (ddD Q))] = some (.nw (.li (dI (uniq (sgs Q))))) := by
  rw [nt_dd]
  show (match keysI _ with | some ks => if ks.length < 64 then some (Rs.nw (.li ((sortI ks).map PyData.int))) else none | none => none) = _
  rw [keys_map]
  dsimp only
  rw [if_pos (by rw [fo_uniq]; exact h), sort_fo]
theorem ds_sort {Q : List Pn} {s : Int} (h : (metOf Q s).length < 64) : fSortF [dsD Q s] = some (.nw (.li (dI (metOf Q s)))) := by
  show (match keysI _ with | some ks => if ks.length < 64 then some (Rs.nw (.li ((sortI ks).map PyData.int))) else none | none => none) = _
  rw [keys_map]
  dsimp only
  rw [if_pos (by rw [fo_uniq]; exact h), sort_fo]
  rfl
theorem so_in {Q : List Pn} {MP PL DD : D} {kw : List (L2.Key × D)} {SP : Ct} {s : Int} {s5 s7 : Sl} (q5 : loose (some s5) = true) (q7 : loose (some s7) = true) (hD : fIxF DD (.int s) = some (.pu (dsD Q s))) : ∀ (ms : List Int) (X : List (List D)) (s6 s11 : Sl), (∀ r ∈ ms, 0 ≤ r ∧ r.toNat < X.length ∧ r ∈ rowsOf Q s) → X.flatten.length + ms.length < 16000000 → loose (some s6) = true → loose (some s11) = true → ∃ (s6' s11' : Sl), loose (some s6') = true ∧ loose (some s11') = true ∧
    forL (gNm 6) L1_spans_of (dI ms) [.pu MP, .pu PL, .ow false (.dk kw), .pu DD, .pu (.int s), s5, s6, s7, .ll (.li X), .ow false SP, .pu (.list (dI (metOf Q s))), s11] = .nx [.pu MP, .pu PL, .ow false (.dk kw), .pu DD, .pu (.int s), s5, s6', s7, .ll (.li (ms.foldl (st1 (entOf Q s)) X)), .ow false SP, .pu (.list (dI (metOf Q s))), s11']
  | [], X, s6, s11, _, _, q6, q11 => ⟨s6, s11, q6, q11, rfl⟩
  | r :: ms, X, s6, s11, h, hk, q6, q11 => by
    obtain ⟨r0, r1, hr⟩ := h r List.mem_cons_self
    have hc := mem_rowsOf.mp hr
    rw [List.length_cons] at hk
    obtain ⟨t6, t11, u6, u11, e⟩ := so_in (MP := MP) (PL := PL) (kw := kw) (SP := SP) q5 q7 hD ms (st1 (entOf Q s) X r) (.pu (.int r)) (.pu (.int (if (metOf Q s).length = 1 then minI (colsOf Q s r) else -1))) (fun x hx => by rw [st1_len]; exact h x (List.mem_cons_of_mem _ hx)) (by rw [st1_flat r1]; omega) rfl rfl
    refine ⟨t6, t11, u6, u11, ?_⟩
    have h1 : gNm 6 (.int r) [.pu MP, .pu PL, .ow false (.dk kw), .pu DD, .pu (.int s), s5, s6, s7, .ll (.li X), .ow false SP, .pu (.list (dI (metOf Q s))), s11] = some [.pu MP, .pu PL, .ow false (.dk kw), .pu DD, .pu (.int s), s5, .pu (.int r), s7, .ll (.li X), .ow false SP, .pu (.list (dI (metOf Q s))), s11] := by simp [setSl_ok, loose_okS q6]
    have h2 : L1_spans_of [.pu MP, .pu PL, .ow false (.dk kw), .pu DD, .pu (.int s), s5, .pu (.int r), s7, .ll (.li X), .ow false SP, .pu (.list (dI (metOf Q s))), s11] = .nx [.pu MP, .pu PL, .ow false (.dk kw), .pu DD, .pu (.int s), s5, .pu (.int r), s7, .ll (.li (st1 (entOf Q s) X r)), .ow false SP, .pu (.list (dI (metOf Q s))), .pu (.int (if (metOf Q s).length = 1 then minI (colsOf Q s r) else -1))] := by
      have hDr := ds_ix hr
      have hmx := max_l hc
      have hmn := min_l hc
      have hmy : (((dI (metOf Q s)).length : Nat) : Int) = ((metOf Q s).length : Int) := by unfold dI; rw [List.length_map]
      have hi : L2.ixN X.length r = some r.toNat := by
        have := ixN_nat (n := X.length) (j := r.toNat) r1
        rwa [Int.toNat_of_nonneg r0] at this
      have hxj : X[r.toNat]? = some (X.getD r.toNat []) := by rw [List.getD_eq_getElem?_getD, List.getElem?_eq_getElem r1]; rfl
      have hxl : (X.getD r.toNat []).length < 16000000 := by
        have := rowD_le (List.mem_of_getElem? hxj); omega
      have hst : st1 (entOf Q s) X r = X.set r.toNat (X.getD r.toNat [] ++ [entOf Q s r]) := rfl
      have he := eqInt ((metOf Q s).length : Int) 1
      rw [hst]
      unfold entOf
      by_cases q : (metOf Q s).length = 1
      · rw [if_pos q]
        rw [decide_eq_true (by omega)] at he
        generalize dsD Q s = DS at *
        generalize dI (colsOf Q s r) = CO at *
        generalize dI (metOf Q s) = MS at *
        generalize (((metOf Q s).length : Nat) : Int) = ML at *
        generalize X.getD r.toNat [] = XR at *
        generalize r.toNat = J at *
        generalize maxI (colsOf Q s r) = MX at *
        generalize minI (colsOf Q s r) = MN at *
        simp [-rg1_eq, -f_shl, -ap_range3, -List.map_replicate, ap_var, ap_retV, setSl_ok, fnOf_eq, bin1_eq, lc1_eq, okW, loose, wipeR, restR, lcE, wb1, wb2, wb3, wb4, wb5, wb6, wb7, L1_spans_of, hD, hDr, hmx, hmn, hmy, he, hi, hxj, hxl, loose_okS q11, cutAl_n _ (loose_nal q5), cutAl_n _ (loose_nal q7), cutAl_n _ (loose_nal q11), noLL_l q5, noLL_l q7, len1_rf, -List.map_set]
      · rw [if_neg q]
        rw [decide_eq_false (by omega)] at he
        generalize dsD Q s = DS at *
        generalize dI (colsOf Q s r) = CO at *
        generalize dI (metOf Q s) = MS at *
        generalize (((metOf Q s).length : Nat) : Int) = ML at *
        generalize X.getD r.toNat [] = XR at *
        generalize r.toNat = J at *
        generalize maxI (colsOf Q s r) = MX at *
        simp [-rg1_eq, -f_shl, -ap_range3, -List.map_replicate, ap_var, ap_retV, setSl_ok, fnOf_eq, bin1_eq, lc1_eq, okW, loose, wipeR, restR, lcE, wb1, wb2, wb3, wb4, wb5, wb6, wb7, L1_spans_of, hD, hDr, hmx, hmn, hmy, he, hi, hxj, hxl, loose_okS q11, cutAl_n _ (loose_nal q5), cutAl_n _ (loose_nal q7), cutAl_n _ (loose_nal q11), noLL_l q5, noLL_l q7, len1_rf, -List.map_set]
    show forL (gNm 6) L1_spans_of (.int r :: dI ms) _ = _
    rw [forL_cons, h1]
    dsimp only
    rw [h2]
    dsimp only
    rw [e]
    rfl
theorem so_out {Q : List Pn} {N : Nat} (hN : N < 60) {MP PL DD : D} {kw : List (L2.Key × D)} {s5 s7 : Sl} (q5 : loose (some s5) = true) (q7 : loose (some s7) = true) : ∀ (wl : List Int) (X : List (List D)) (SP : List D) (s4 s6 s10 s11 : Sl), (∀ s ∈ wl, Ent Q N s ∧ fIxF DD (.int s) = some (.pu (dsD Q s))) → X.length = N → X.flatten.length + 64 * wl.length < 1000000 → SP.length + wl.length < 1000000 → loose (some s4) = true → loose (some s6) = true → loose (some s10) = true → loose (some s11) = true → ∃ (s4' s6' s10' s11' : Sl), loose (some s4') = true ∧ loose (some s6') = true ∧ loose (some s10') = true ∧ loose (some s11') = true ∧
    forL (gNm 4) L2_spans_of (dI wl) [.pu MP, .pu PL, .ow false (.dk kw), .pu DD, s4, s5, s6, s7, .ll (.li X), .ow false (.li SP), s10, s11] = .nx [.pu MP, .pu PL, .ow false (.dk kw), .pu DD, s4', s5, s6', s7, .ll (.li (wl.foldl (stS (metOf Q) (entOf Q)) X)), .ow false (.li (SP ++ wl.flatMap (spn (metOf Q)))), s10', s11']
  | [], X, SP, s4, s6, s10, s11, _, _, _, _, q4, q6, q10, q11 => ⟨s4, s6, s10, s11, q4, q6, q10, q11, by simp⟩
  | s :: wl, X, SP, s4, s6, s10, s11, h, hX, hk, hk2, q4, q6, q10, q11 => by
    obtain ⟨hE, hD⟩ := h s List.mem_cons_self
    have hm := hE.met
    have hR := metR hE
    rw [List.length_cons] at hk hk2
    obtain ⟨t6, t11, u6, u11, e1⟩ := so_in (MP := MP) (PL := PL) (DD := DD) (kw := kw) (SP := .li SP) (Q := Q) (s := s) q5 q7 hD (metOf Q s) X s6 s11 (fun r hr => ⟨(hR r hr).1, by rw [hX]; exact (hR r hr).2.1, mem_uniq.mp hr⟩) (by omega) q6 q11
    have hfl := stS_flat (met := metOf Q) (ent := entOf Q) (s := s) (X := X) (fun r hr => by rw [hX]; exact (hR r hr).2.1)
    have hsp : (spn (metOf Q) s).length ≤ 1 := by unfold spn; split <;> simp
    obtain ⟨v4, v6, v10, v11, w4, w6, w10, w11, e⟩ := so_out hN (MP := MP) (PL := PL) (DD := DD) (kw := kw) q5 q7 wl (stS (metOf Q) (entOf Q) X s) (SP ++ spn (metOf Q) s) (.pu (.int s)) t6 (.pu (.list (dI (metOf Q s)))) t11 (fun x hx => h x (List.mem_cons_of_mem _ hx)) (by rw [stS_len, hX]) (by omega) (by rw [List.length_append]; omega) rfl u6 rfl u11
    refine ⟨v4, v6, v10, v11, w4, w6, w10, w11, ?_⟩
    have h1 : gNm 4 (.int s) [.pu MP, .pu PL, .ow false (.dk kw), .pu DD, s4, s5, s6, s7, .ll (.li X), .ow false (.li SP), s10, s11] = some [.pu MP, .pu PL, .ow false (.dk kw), .pu DD, .pu (.int s), s5, s6, s7, .ll (.li X), .ow false (.li SP), s10, s11] := by simp [setSl_ok, loose_okS q4]
    have h2 : L2_spans_of [.pu MP, .pu PL, .ow false (.dk kw), .pu DD, .pu (.int s), s5, s6, s7, .ll (.li X), .ow false (.li SP), s10, s11] = .nx [.pu MP, .pu PL, .ow false (.dk kw), .pu DD, .pu (.int s), s5, t6, s7, .ll (.li (stS (metOf Q) (entOf Q) X s)), .ow false (.li (SP ++ spn (metOf Q) s)), .pu (.list (dI (metOf Q s))), t11] := by
      have a3 := ds_sort (Q := Q) (s := s) (by omega)
      have hmy : (((dI (metOf Q s)).length : Nat) : Int) = ((metOf Q s).length : Int) := by unfold dI; rw [List.length_map]
      have f0 := fix_first hm.2
      have f1 := fix_last hm.2
      have hS : SP.length < 16000000 := by omega
      have hst : (metOf Q s).foldl (st1 (entOf Q s)) X = stS (metOf Q) (entOf Q) X s := rfl
      rw [hst] at e1
      unfold spn
      by_cases q : 1 < (metOf Q s).length
      · rw [if_pos q]
        have q' : (1 : Int) < ((metOf Q s).length : Int) := by omega
        generalize dsD Q s = DS at *
        generalize dI (metOf Q s) = MS at *
        generalize (((metOf Q s).length : Nat) : Int) = ML at *
        generalize stS (metOf Q) (entOf Q) X s = X' at *
        generalize (metOf Q s).getD 0 0 = M0 at *
        generalize (metOf Q s).getD ((metOf Q s).length - 1) 0 = M1 at *
        simp [-rg1_eq, -f_shl, -ap_range3, -List.map_replicate, ap_var, ap_retV, setSl_ok, fnOf_eq, bin1_eq, lc1_eq, okW, loose, wipeR, restR, lcE, wb1, wb2, wb3, wb4, wb5, wb6, wb7, L2_spans_of, hD, a3, e1, hmy, q', f0, f1, hS, loose_okS q10]
      · rw [if_neg q, List.append_nil]
        have q' : ¬ (1 : Int) < ((metOf Q s).length : Int) := by omega
        generalize dsD Q s = DS at *
        generalize dI (metOf Q s) = MS at *
        generalize (((metOf Q s).length : Nat) : Int) = ML at *
        generalize stS (metOf Q) (entOf Q) X s = X' at *
        simp [-rg1_eq, -f_shl, -ap_range3, -List.map_replicate, ap_var, ap_retV, setSl_ok, fnOf_eq, bin1_eq, lc1_eq, okW, loose, wipeR, restR, lcE, wb1, wb2, wb3, wb4, wb5, wb6, wb7, L2_spans_of, hD, a3, e1, hmy, q', loose_okS q10]
    show forL (gNm 4) L2_spans_of (.int s :: dI wl) _ = _
    rw [forL_cons, h1]
    dsimp only
    rw [h2]
    dsimp only
    rw [e]
    show _ = Mo.nx [_, _, _, _, _, _, _, _, _, Sl.ow false (Ct.li (SP ++ (spn (metOf Q) s ++ wl.flatMap (spn (metOf Q))))), _, _]
    rw [List.append_assoc]
    rfl
end K36
namespace K36
open PySem Ow PyProof.Rows
theorem so_new {MP PL DD : D} {kw : Ct} {s4 s5 s7 : Sl} (q4 : loose (some s4) = true) (q5 : loose (some s5) = true) (q7 : loose (some s7) = true) : ∀ (ds : List D), lcL [6] (gNm 6) oYes (oNewL C2_spans_of) ds [.pu MP, .pu PL, .ow false kw, .pu DD, s4, s5, .no, s7, .no, .no, .no, .no] = .ok ((List.replicate ds.length ([] : List D)).map PyData.list) [.pu MP, .pu PL, .ow false kw, .pu DD, s4, s5, .no, s7, .no, .no, .no, .no] := fun ds => by
  have := lcL_map (vs := [6]) (g := gNm 6) (oe := oNewL C2_spans_of) (ρ := [.pu MP, .pu PL, .ow false kw, .pu DD, s4, s5, .no, s7, .no, .no, .no, .no]) (k := id) (f := fun _ => .list []) (l := ds) fun d _ => ⟨[.pu MP, .pu PL, .ow false kw, .pu DD, s4, s5, .pu d, s7, .no, .no, .no, .no], [.pu MP, .pu PL, .ow false kw, .pu DD, s4, s5, .pu d, s7, .no, .no, .no, .no], by simp [setSl_ok], by simp [-rg1_eq, -f_shl, -ap_range3, -List.map_replicate, ap_var, ap_retV, setSl_ok, fnOf_eq, bin1_eq, lc1_eq, okW, loose, wipeR, restR, lcE, wb1, wb2, wb3, wb4, wb5, wb6, wb7, C2_spans_of], by simp [wipeR]⟩
  rw [List.map_id] at this
  rw [this, List.map_replicate]
  congr 1
  exact List.map_const' ..
theorem so_end {MP PL DD : D} {kw SP : Ct} {s4 s5 s7 s8 s10 s11 : Sl} (X : List (List D)) : lcL [6] (gNm 6) oYes C1_spans_of (X.map PyData.list) [.pu MP, .pu PL, .ow false kw, .pu DD, s4, s5, .no, s7, s8, .ow false SP, s10, s11] = .ok (X.map .tuple) [.pu MP, .pu PL, .ow false kw, .pu DD, s4, s5, .no, s7, s8, .ow false SP, s10, s11] := by
  refine lcL_map (f := PyData.tuple) fun xs _ => ⟨[.pu MP, .pu PL, .ow false kw, .pu DD, s4, s5, .pu (.list xs), s7, s8, .ow false SP, s10, s11], [.pu MP, .pu PL, .ow false kw, .pu DD, s4, s5, .pu (.list xs), s7, s8, .ow false SP, s10, s11], by simp [setSl_ok], ?_, by simp [wipeR]⟩
  simp [-rg1_eq, -f_shl, -ap_range3, -List.map_replicate, ap_var, ap_retV, setSl_ok, fnOf_eq, bin1_eq, lc1_eq, okW, loose, wipeR, restR, lcE, wb1, wb2, wb3, wb4, wb5, wb6, wb7, C1_spans_of]
theorem spans_of_ok {m : Mp} {P : List (List Int)} {ps : List Pn} {W : Int → Bool} {kw : List (L2.Key × D)} (hW : ∀ s, (valD kw (.inl s)).isSome = W s) (hwi : g_wired_signals [.pu (mpD m)] = .ret (.nw (.dk kw)) [.pu (mpD m)])
    (hp : g_pins_of [.pu (mpD m), .pu (plD P)] = .ret (.nw (.li (ps.map pnD))) [.pu (mpD m), .pu (plD P)]) {Q : List Pn} (hQ : Q = ps.filter fun p => W p.1)
    (hN : P.length < 60) (hl : ps.length < 4000) (hw : (uniq (sgs Q)).length < 64) (hE : ∀ s ∈ uniq (sgs Q), Ent Q P.length s) :
    g_spans_of [.pu (mpD m), .pu (plD P)] = .ret (.pu (resD (uniq (sgs Q)) (metOf Q) (entOf Q) P.length)) [.pu (mpD m), .pu (plD P)] := by
  obtain ⟨s4, s5, s6, s7, q4, q5, q6, q7, e1⟩ := so_fill hW (MP := mpD m) (PL := plD P) ps [] .no .no .no .no (by simp only [List.length_nil]; omega) rfl rfl rfl rfl
  rw [List.nil_append, ← hQ] at e1
  have a1 := so_new (MP := mpD m) (PL := plD P) (DD := ntD (.dd (ddD Q))) (kw := .dk kw) q4 q5 q7 (P.map arD)
  rw [List.length_map] at a1
  have hso := dd_sort hw
  obtain ⟨t4, t6, t10, t11, u4, u6, u10, u11, e⟩ := so_out hN (MP := mpD m) (PL := plD P) (DD := ntD (.dd (ddD Q))) (kw := kw) q5 q7 (uniq (sgs Q)) (List.replicate P.length []) [] s4 s6 .no .no (fun s hs => ⟨hE s hs, dd_ix (mem_uniq.mp hs)⟩) (by simp) (by rw [rep_flat]; simp only [List.length_nil]; omega) (by simp only [List.length_nil]; omega) q4 q6 rfl rfl
  rw [List.nil_append] at e
  have hlX : ((uniq (sgs Q)).foldl (stS (metOf Q) (entOf Q)) (List.replicate P.length [])).length = P.length := by
    have : ∀ (l : List Int) (X : List (List D)), (l.foldl (stS (metOf Q) (entOf Q)) X).length = X.length := by
      intro l
      induction l with
      | nil => intro X; rfl
      | cons s l ih => intro X; rw [List.foldl_cons, ih, stS_len]
    rw [this, List.length_replicate]
  have b2 : (P.map arD).length ≤ 16000000 := by rw [List.length_map]; omega
  have b3 : ((uniq (sgs Q)).foldl (stS (metOf Q) (entOf Q)) (List.replicate P.length [])).length ≤ 16000000 := by rw [hlX]; omega
  have e9 := fun s8 => so_end (MP := mpD m) (PL := plD P) (DD := ntD (.dd (ddD Q))) (kw := .dk kw) (SP := .li ((uniq (sgs Q)).flatMap (spn (metOf Q)))) (s4 := t4) (s5 := s5) (s7 := s7) (s8 := s8) (s10 := t10) (s11 := t11) ((uniq (sgs Q)).foldl (stS (metOf Q) (entOf Q)) (List.replicate P.length []))
  have ok6 : ∀ (s0 s1 s2 s3 s4 s5 s7 s8 s9 s10 s11 : Sl), okW [s0, s1, s2, s3, s4, s5, s6, s7, s8, s9, s10, s11] [6] = true := fun _ _ _ _ _ _ _ _ _ _ _ => by simpa [okW] using q6
  have ok6' : ∀ (s0 s1 s2 s3 s4 s5 s7 s8 s9 s10 s11 : Sl), okW [s0, s1, s2, s3, s4, s5, t6, s7, s8, s9, s10, s11] [6] = true := fun _ _ _ _ _ _ _ _ _ _ _ => by simpa [okW] using u6
  have hR : resD (uniq (sgs Q)) (metOf Q) (entOf Q) P.length = .tuple [.tuple (((uniq (sgs Q)).foldl (stS (metOf Q) (entOf Q)) (List.replicate P.length [])).map .tuple), .tuple ((uniq (sgs Q)).flatMap (spn (metOf Q)))] := rfl
  rw [hR]
  have hPl : plD P = .tuple (P.map arD) := rfl
  have hdd0 : ddD [] = [] := rfl
  rw [hdd0] at e1
  rw [hPl] at a1 e e1 e9 hp ⊢
  generalize mpD m = MP at *
  generalize ps.map pnD = PS at *
  generalize (uniq (sgs Q)).foldl (stS (metOf Q) (entOf Q)) (List.replicate P.length []) = XX at *
  generalize XX.map PyData.tuple = XT at *
  generalize (uniq (sgs Q)).flatMap (spn (metOf Q)) = SP at *
  generalize dI (uniq (sgs Q)) = WL at *
  generalize Nt.dd (ddD Q) = DQ at *
  generalize List.replicate P.length ([] : List D) = RP at *
  generalize P.map arD = PD at *
  simp [-rg1_eq, -f_shl, -ap_range3, -List.map_replicate, ap_var, ap_retV, setSl_ok, fnOf_eq, bin1_eq, lc1_eq, okW, loose, wipeR, restR, lcE, wb1, wb2, wb3, wb4, wb5, wb6, wb7, g_spans_of, b_spans_of, hwi, hp, e1, mkLL1_eq, b2, ok6, ok6', a1, hso, e, e9, b3, -okW, cutAl_n _ (loose_nal q4), cutAl_n _ (loose_nal q5), cutAl_n _ (loose_nal q6), cutAl_n _ (loose_nal q7), cutAl_n _ (loose_nal u4), cutAl_n _ (loose_nal u6), cutAl_n _ (loose_nal u10), cutAl_n _ (loose_nal u11), noLL_l q4, noLL_l q5, noLL_l q6, noLL_l q7, len1_rf]
end K36
namespace K36
open PySem Ow PyProof.Rows
/-- the blocks of a drawn mapped net -/
theorem bls_ok {cs : List Cl} {m : Mp} (hcs : LibOk cs) (hm : MpOk cs m) : ∀ b ∈ bls m, b.length ≤ 4 ∧ ∀ x ∈ b, 0 ≤ x.1 ∧ x.1 < (m.size : Int) := by
  have hz : m.nms.length + m.hs.length = m.first := rfl
  have hz2 : m.first + m.ms.length = m.size := rfl
  intro b hb
  unfold bls bl2 bl1 bl0 at hb
  rw [List.mem_append, List.mem_append, List.mem_append] at hb
  rcases hb with ((hb | hb) | hb) | hb
  · obtain ⟨k, hk, rfl⟩ := List.mem_map.mp hb
    rw [List.mem_range] at hk
    refine ⟨by simp, fun x hx => ?_⟩
    rw [List.mem_singleton] at hx
    subst hx
    exact ⟨by omega, by omega⟩
  · obtain ⟨i, hi, rfl⟩ := List.mem_mapIdx.mp hb
    refine ⟨by simp [bkR], fun x hx => ?_⟩
    have := hm.hs _ (List.getElem_mem hi)
    simp only [bkR, List.mem_cons, List.not_mem_nil, or_false] at hx
    rcases hx with rfl | rfl
    · exact this
    · exact ⟨by dsimp only; omega, by dsimp only; omega⟩
  · obtain ⟨i, hi, rfl⟩ := List.mem_mapIdx.mp hb
    obtain ⟨q1, q2, q3⟩ := hm.ms i _ (List.getElem?_eq_getElem hi)
    have h3 := (hcs.2.1 _ q1).2.1
    refine ⟨by simp only [bkC, List.length_append, List.length_map, List.length_cons, List.length_nil]; omega, fun x hx => ?_⟩
    simp only [bkC, List.mem_append, List.mem_map, List.mem_cons, List.not_mem_nil, or_false] at hx
    rcases hx with ⟨s, hs, rfl⟩ | rfl
    · have := q3 s hs
      exact ⟨this.1, by have := this.2; dsimp only; omega⟩
    · exact ⟨by dsimp only; omega, by dsimp only; omega⟩
  · obtain ⟨i, hi, rfl⟩ := List.mem_mapIdx.mp hb
    refine ⟨by simp [bkO], fun x hx => ?_⟩
    simp only [bkO, List.mem_cons, List.not_mem_nil, or_false] at hx
    subst hx
    exact hm.os _ (List.getElem_mem hi)
theorem widB_le {B : List Bk} {k : Nat} (h : ∀ b ∈ B, b.length ≤ k) : widB B ≤ k * B.length := by
  unfold widB
  induction B with
  | nil => simp
  | cons b B ih =>
    have h1 := h b List.mem_cons_self
    have h2 := ih fun x hx => h x (List.mem_cons_of_mem _ hx)
    rw [List.map_cons, List.sum_cons, List.length_cons, Nat.mul_add]; omega
theorem bp_mem {p : Pn} {r : Int} : ∀ {b : Bk} {c : Int}, p ∈ bp b r c → (p.1, p.2.1) ∈ b ∧ p.2.2.1 = r
  | [], _, h => by simp [bp] at h
  | x :: b, c, h => by
    rcases List.mem_cons.mp (show p ∈ (x.1, x.2, r, c) :: bp b r (c + 1) from h) with rfl | h
    · exact ⟨List.mem_cons_self, rfl⟩
    · have := bp_mem h
      exact ⟨List.mem_cons_of_mem _ this.1, this.2⟩
theorem bp_of {x : Int × Int} {r : Int} : ∀ {b : Bk} {c : Int}, x ∈ b → ∃ p ∈ bp b r c, p.1 = x.1 ∧ p.2.1 = x.2
  | [], _, h => by cases h
  | y :: b, c, h => by
    rcases List.mem_cons.mp h with rfl | h
    · exact ⟨(x.1, x.2, r, c), List.mem_cons_self, rfl, rfl⟩
    · obtain ⟨p, hp, q⟩ := bp_of (r := r) (c := c + 1) h
      exact ⟨p, List.mem_cons_of_mem _ hp, q⟩
theorem row_r {B : List Bk} {r : Int} {t : Int × Int × Int} : ∀ {l : List Int} {c : Int}, t ∈ placeRow B r c l → t.2.1 = r
  | [], _, h => by simp [placeRow] at h
  | b :: l, c, h => by
    rcases List.mem_cons.mp (show t ∈ (b, r, c) :: placeRow B r (c + wd B b) l from h) with rfl | h
    · rfl
    · exact row_r h
theorem placeL_r {B : List Bk} {t : Int × Int × Int} : ∀ {P : List (List Int)} {r : Int}, t ∈ placeL B r P → r ≤ t.2.1 ∧ t.2.1 < r + (P.length : Int)
  | [], _, h => by simp [placeL] at h
  | l :: P, r, h => by
    rw [List.length_cons]
    rcases List.mem_append.mp (show t ∈ placeRow B r 0 l ++ placeL B (r + 1) P from h) with h | h
    · have := row_r h; omega
    · have := placeL_r h; omega
/-- what a drawn net and a drawn placement keep -/
structure Fit (m : Mp) (P : List (List Int)) : Prop where
  hb : ∀ b ∈ bls m, b.length ≤ 4 ∧ ∀ x ∈ b, 0 ≤ x.1 ∧ x.1 < (m.size : Int)
  sz : m.size < 60
  nB : (bls m).length ≤ 200
  pl : P.length < 60
  pm : P.flatten.Perm (rgI (bls m).length)
theorem Fit.pin {m : Mp} {P : List (List Int)} (F : Fit m P) {p : Pn} (hp : p ∈ pinsB (bls m) P) : (∃ b ∈ bls m, (p.1, p.2.1) ∈ b) ∧ 0 ≤ p.2.2.1 ∧ p.2.2.1 < (P.length : Int) := by
  obtain ⟨t, ht, hp⟩ := List.mem_flatMap.mp hp
  have h1 := placeL_r ht
  obtain ⟨h2, h3⟩ := bp_mem hp
  refine ⟨⟨(bls m).getD t.1.toNat [], ?_, h2⟩, by omega, by omega⟩
  rw [List.getD_eq_getElem?_getD] at h2 ⊢
  by_cases hl : t.1.toNat < (bls m).length
  · rw [List.getElem?_eq_getElem hl]; exact List.getElem_mem hl
  · rw [List.getElem?_eq_none (by omega)] at h2; cases h2
theorem Fit.isW {m : Mp} {P : List (List Int)} (F : Fit m P) (s : Int) : isW (bls m) s = true ↔ ∃ p ∈ pinsB (bls m) P, p.1 = s ∧ p.2.1 = 0 := by
  unfold K36.isW
  rw [List.any_eq_true]
  constructor
  · rintro ⟨b, hb, h⟩
    rw [List.any_eq_true] at h
    obtain ⟨x, hx, h⟩ := h
    rw [Bool.and_eq_true, decide_eq_true_eq, decide_eq_true_eq] at h
    obtain ⟨k, hk, rfl⟩ := List.getElem_of_mem hb
    have hmem : (k : Int) ∈ P.flatten := F.pm.mem_iff.mpr (mem_rgI.mpr ⟨by omega, by omega⟩)
    rw [← placeL_fst (bls m) P 0] at hmem
    obtain ⟨t, ht, ht2⟩ := List.mem_map.mp hmem
    have hget : (bls m).getD t.1.toNat [] = (bls m)[k] := by
      rw [ht2, Int.toNat_natCast, List.getD_eq_getElem?_getD, List.getElem?_eq_getElem hk]; rfl
    obtain ⟨p, hp, h1, h2⟩ := bp_of (r := t.2.1) (c := t.2.2) (b := (bls m).getD t.1.toNat []) (x := x) (by rw [hget]; exact hx)
    exact ⟨p, List.mem_flatMap.mpr ⟨t, ht, hp⟩, by omega, by omega⟩
  · rintro ⟨p, hp, h1, h2⟩
    obtain ⟨⟨b, hb, hx⟩, _⟩ := F.pin hp
    exact ⟨b, hb, List.any_eq_true.mpr ⟨_, hx, by simp [h1, h2]⟩⟩
theorem ent_of {Q : List Pn} {N : Nat} (hl : Q.length < 4000) (hr : ∀ p ∈ Q, 0 ≤ p.2.2.1 ∧ p.2.2.1 < (N : Int)) {s : Int} (hs : s ∈ sgs Q) : Ent Q N s where
  rl := by unfold rowsOf; rw [List.length_map]; exact Nat.lt_of_le_of_lt (mine_len Q s) hl
  rr := fun r h => by
    obtain ⟨p, hp, rfl⟩ := List.mem_map.mp h
    exact hr p ((List.mem_filter.mp hp).1)
  r0 := fun e => mem_sgs.mp hs (by unfold rowsOf at e; exact List.map_eq_nil_iff.mp e)
theorem Fit.len {m : Mp} {P : List (List Int)} (F : Fit m P) : widB (bls m) ≤ 800 ∧ (pinsB (bls m) P).length = widB (bls m) ∧ (pinsA (bls m) P (rgI (bls m).length)).length = widB (bls m) := by
  have h1 := widB_le fun b hb => (F.hb b hb).1
  have hnd : (rgI (bls m).length).Nodup := by
    unfold rgI
    exact List.Pairwise.map (R := fun a b : Nat => a ≠ b) (S := fun a b : Int => a ≠ b) (fun k : Nat => (k : Int)) (fun a b h q => h (by omega)) List.nodup_range
  have h2 : (pinsA (bls m) P (rgI (bls m).length)).length = widB (bls m) := by
    rw [← widB_rg]
    unfold pinsA
    rw [List.length_flatMap]
    congr 1
    exact List.map_congr_left fun b _ => bp_len _ _ _
  refine ⟨by have := F.nB; omega, ?_, h2⟩
  rw [← h2]
  exact (pins_perm F.pm hnd).length_eq.symm
theorem Fit.perm {m : Mp} {P : List (List Int)} (F : Fit m P) : (pinsA (bls m) P (rgI (bls m).length)).Perm (pinsB (bls m) P) := by
  have hnd : (rgI (bls m).length).Nodup := by
    unfold rgI
    exact List.Pairwise.map (R := fun a b : Nat => a ≠ b) (S := fun a b : Int => a ≠ b) (fun k : Nat => (k : Int)) (fun a b h q => h (by omega)) List.nodup_range
  exact pins_perm F.pm hnd
/-- the told rows lean on what is told of the told signals alone -/
theorem resD_congr {wl : List Int} {met met' : Int → List Int} {ent ent' : Int → Int → D} {N : Nat} (h : ∀ s ∈ wl, met s = met' s ∧ ent s = ent' s) : resD wl met ent N = resD wl met' ent' N := by
  have h1 : ∀ X, wl.foldl (stS met ent) X = wl.foldl (stS met' ent') X := by
    induction wl with
    | nil => intro X; rfl
    | cons s wl ih =>
      intro X
      obtain ⟨a, b⟩ := h s List.mem_cons_self
      rw [List.foldl_cons, List.foldl_cons, ih fun x hx => h x (List.mem_cons_of_mem _ hx)]
      unfold stS
      rw [a, b]
  have h2 : wl.flatMap (spn met) = wl.flatMap (spn met') := flatMap_congr' fun s hs => by unfold spn; rw [(h s hs).1]
  unfold resD
  rw [h1, h2]
theorem resD_deep {Q : List Pn} {wl : List Int} {N : Nat} : DeepI 4 (resD wl (metOf Q) (entOf Q) N) := by
  have he : ∀ s r, DeepI 1 (entOf Q s r) := fun s r => .tup fun d hd => by
    simp only [List.mem_cons, List.not_mem_nil, or_false] at hd
    rcases hd with rfl | rfl | rfl
    all_goals exact .int _ _
  have h1 : ∀ (ms : List Int) (s : Int) (X : List (List D)), (∀ xs ∈ X, ∀ d ∈ xs, DeepI 1 d) → ∀ xs ∈ ms.foldl (st1 (entOf Q s)) X, ∀ d ∈ xs, DeepI 1 d := by
    intro ms s
    induction ms with
    | nil => intro X h; exact h
    | cons r ms ih =>
      intro X h
      rw [List.foldl_cons]
      refine ih _ fun xs hxs d hd => ?_
      unfold st1 at hxs
      rcases List.mem_or_eq_of_mem_set hxs with q | q
      · exact h xs q d hd
      · subst q
        rcases List.mem_append.mp hd with q | q
        · rw [List.getD_eq_getElem?_getD] at q
          cases hx : X[r.toNat]? with
          | none => rw [hx] at q; cases q
          | some ys => rw [hx] at q; exact h ys (List.mem_of_getElem? hx) d q
        · rw [List.mem_singleton] at q
          subst q; exact he s r
  have h2 : ∀ (wl : List Int) (X : List (List D)), (∀ xs ∈ X, ∀ d ∈ xs, DeepI 1 d) → ∀ xs ∈ wl.foldl (stS (metOf Q) (entOf Q)) X, ∀ d ∈ xs, DeepI 1 d := by
    intro wl
    induction wl with
    | nil => intro X h; exact h
    | cons s wl ih => intro X h; rw [List.foldl_cons]; exact ih _ (h1 _ s X h)
  have h3 := h2 wl (List.replicate N []) fun xs hxs d hd => by
    rw [List.eq_of_mem_replicate hxs] at hd; cases hd
  unfold resD
  refine .tup fun d hd => ?_
  simp only [List.mem_cons, List.not_mem_nil, or_false] at hd
  rcases hd with rfl | rfl
  · refine .tup fun d hd => ?_
    obtain ⟨xs, hxs, rfl⟩ := List.mem_map.mp hd
    exact .tup fun d hd => h3 xs hxs d hd
  · refine .tup fun d hd => ?_
    obtain ⟨s, _, hd⟩ := List.mem_flatMap.mp hd
    unfold spn at hd
    split at hd
    · rw [List.mem_singleton] at hd
      subst hd
      refine .tup fun d hd => ?_
      simp only [List.mem_cons, List.not_mem_nil, or_false] at hd
      rcases hd with rfl | rfl | rfl
      all_goals exact .int _ _
    · cases hd
/-- both sides tell the same -/
theorem both {m : Mp} {P : List (List Int)} (F : Fit m P) (hb : g_blocks_of [.pu (mpD m)] = .ret (.pu (.tuple ((bls m).map bkT))) [.pu (mpD m)]) (hl : g__law_blocks [.pu (mpD m)] = .ret (.nw (.li ((bls m).map bkL))) [.pu (mpD m)]) :
    ∃ r : D, DeepI 4 r ∧ g_spans_of [.pu (mpD m), .pu (plD P)] = .ret (.pu r) [.pu (mpD m), .pu (plD P)] ∧ g__law_spans [.pu (mpD m), .pu (plD P)] = .ret (.pu r) [.pu (mpD m), .pu (plD P)] := by
  obtain ⟨w1, w2, w3⟩ := F.len
  have hpm := F.perm
  have hnB := F.nB
  have hpl := F.pl
  obtain ⟨T, e1⟩ := law_pins_ok hl F.pm (by omega) (by omega) (by omega)
  obtain ⟨kw, hkw, e2⟩ := wired_ok hb (by omega)
  have e3 := pins_of_ok hb F.pm (by omega) (by omega)
  have hrB : ∀ p ∈ pinsB (bls m) P, 0 ≤ p.2.2.1 ∧ p.2.2.1 < (P.length : Int) := fun p hp => (F.pin hp).2
  have hsB : ∀ p ∈ pinsB (bls m) P, 0 ≤ p.1 ∧ p.1 < (m.size : Int) := fun p hp => by
    obtain ⟨⟨b, hb, hx⟩, _⟩ := F.pin hp
    exact (F.hb b hb).2 _ hx
  have hWW := F.isW
  generalize hW : isW (bls m) = W at *
  generalize pinsB (bls m) P = QB at *
  generalize pinsA (bls m) P (rgI (bls m).length) = QA at *
  have hfp : (QA.filter fun p => W p.1).Perm (QB.filter fun p => W p.1) := hpm.filter _
  have hwl : uniq (sgs (QA.filter fun p => W p.1)) = wlB QB := uniq_perm fun s => by
    unfold sgs
    rw [List.mem_map, List.mem_map]
    constructor
    · rintro ⟨p, hp, rfl⟩
      rw [List.mem_filter] at hp
      obtain ⟨q, hq, h1, h2⟩ := (hWW p.1).mp hp.2
      exact ⟨q, List.mem_filter.mpr ⟨hq, by simpa using h2⟩, h1⟩
    · rintro ⟨q, hq, rfl⟩
      rw [List.mem_filter, decide_eq_true_eq] at hq
      exact ⟨q, List.mem_filter.mpr ⟨hpm.mem_iff.mpr hq.1, (hWW q.1).mpr ⟨q, hq.1, rfl, hq.2⟩⟩, rfl⟩
  have hWs : ∀ s ∈ wlB QB, W s = true ∧ s ∈ sgs QB := fun s hs => by
    obtain ⟨q, hq, rfl⟩ := List.mem_map.mp (mem_uniq.mp hs)
    rw [List.mem_filter, decide_eq_true_eq] at hq
    exact ⟨(hWW q.1).mpr ⟨q, hq.1, rfl, hq.2⟩, List.mem_map.mpr ⟨q, hq.1, rfl⟩⟩
  have hlen : (wlB QB).length < 64 := by
    have := uniq_len (l := (QB.filter fun p => decide (p.2.1 = 0)).map (·.1)) (b := m.size) fun s hs => by
      obtain ⟨q, hq, rfl⟩ := List.mem_map.mp hs
      exact hsB q ((List.mem_filter.mp hq).1)
    have h2 := F.sz
    unfold wlB; omega
  have k1 := law_spans_ok e1 F.pl (by omega) hlen fun s hs => ent_of (by omega) hrB (hWs s hs).2
  have hlA : (QA.filter fun p => W p.1).length ≤ QA.length := List.length_filter_le _ _
  have k2 := spans_of_ok (W := W) hkw e2 e3 (Q := QA.filter fun p => W p.1) rfl F.pl (by omega) (by rw [hwl]; exact hlen) fun s hs => ent_of (by omega) (fun p hp => hrB p (hpm.mem_iff.mp ((List.mem_filter.mp hp).1))) (mem_uniq.mp hs)
  refine ⟨_, resD_deep, k2, ?_⟩
  rw [k1, hwl]
  have : resD (wlB QB) (metOf QB) (entOf QB) P.length = resD (wlB QB) (metOf (QA.filter fun p => W p.1)) (entOf (QA.filter fun p => W p.1)) P.length := by
    have h1 : resD (wlB QB) (metOf (QA.filter fun p => W p.1)) (entOf (QA.filter fun p => W p.1)) P.length = resD (wlB QB) (metOf (QB.filter fun p => W p.1)) (entOf (QB.filter fun p => W p.1)) P.length := by
      unfold resD
      rw [stS_perm hfp, metOf_perm hfp]
    rw [h1]
    refine resD_congr fun s hs => ?_
    have hmi := mine_filter (Q := QB) (hWs s hs).1
    have h2 : metOf QB s = metOf (QB.filter fun p => W p.1) s := by unfold metOf rowsOf; rw [hmi]
    refine ⟨h2, ?_⟩
    funext r
    unfold entOf colsOf
    rw [← h2, hmi]
  rw [this]
end K36
namespace K36
open PySem Ow PyProof.Rows
theorem bls_deep (B : List Bk) : DeepI 3 (.tuple (B.map bkT)) := .tup fun d hd => by
  obtain ⟨b, _, rfl⟩ := List.mem_map.mp hd
  refine .tup fun d hd => ?_
  obtain ⟨x, _, rfl⟩ := List.mem_map.mp hd
  refine .tup fun d hd => ?_
  simp only [List.mem_cons, List.not_mem_nil, or_false] at hd
  rcases hd with rfl | rfl
  all_goals exact .int _ _
theorem due_lc {SC LB MA MP : D} {dd : Ct} (B : List Bk) : lcL [8] (gNm 8) oYes C1_law (B.map bkL) [.pu SC, .ow false dd, .pu LB, .pu MA, .pu MP, .no, .no, .no, .no] = .ok (B.map bkT) [.pu SC, .ow false dd, .pu LB, .pu MA, .pu MP, .no, .no, .no, .no] := by
  refine lcL_map (f := bkT) fun b _ => ⟨[.pu SC, .ow false dd, .pu LB, .pu MA, .pu MP, .no, .no, .no, .pu (bkL b)], [.pu SC, .ow false dd, .pu LB, .pu MA, .pu MP, .no, .no, .no, .pu (bkL b)], by simp [setSl_ok], ?_, by simp [wipeR]⟩
  have h1 : bkL b = .list (b.map coD) := rfl
  have h2 : bkT b = .tuple (b.map coD) := rfl
  rw [h1, h2]
  generalize b.map coD = L
  simp [-rg1_eq, -f_shl, -ap_range3, -List.map_replicate, ap_var, ap_retV, setSl_ok, fnOf_eq, bin1_eq, lc1_eq, okW, loose, wipeR, restR, lcE, wb1, wb2, wb3, wb4, wb5, wb6, wb7, C1_law]
theorem step {cs : List Cl} {m : Mp} (hcs : LibOk cs) (hm : MpOk cs m) (hsz : m.size < 60) (hnB : (bls m).length ≤ 200) (hb : g_blocks_of [.pu (mpD m)] = .ret (.pu (.tuple ((bls m).map bkT))) [.pu (mpD m)]) (hl : g__law_blocks [.pu (mpD m)] = .ret (.nw (.li ((bls m).map bkL))) [.pu (mpD m)])
    {SC LB MA DU : D} {ds : List D} (h : DOK ds) {k p : Sl} (qk : okS (some k) = true) (qp : okS (some p) = true) :
    ∃ (ds' : List D) (p' : Sl), DOK ds' ∧ okS (some p') = true ∧ L1_law [.pu SC, .ow false (.li ds), .pu LB, .pu MA, .pu (mpD m), .pu DU, k, p, .no] = .nx [.pu SC, .ow false (.li ds'), .pu LB, .pu MA, .pu (mpD m), .pu DU, k, p', .no] := by
  obtain ⟨r, ds1, hd1, r0, r1, e1⟩ := draw h (m := 5) (by decide) (by decide)
  obtain ⟨n, rfl⟩ : ∃ n : Nat, r = (n : Int) := ⟨r.toNat, by omega⟩
  obtain ⟨ds2, P, hd2, p1, p2, e2⟩ := drawn_pl hd1 hl (by rw [List.length_map]; omega) (n := 1 + n) (by omega) (by omega)
  rw [List.length_map] at p2
  have F : Fit m P := ⟨bls_ok hcs hm, hsz, hnB, by omega, p2⟩
  obtain ⟨R, hR, k1, k2⟩ := both F hb hl
  have hne := neSame hR (by decide)
  have hn : (1 : Int) + ((n : Nat) : Int) = ((1 + n : Nat) : Int) := by omega
  rw [← hn] at e2
  refine ⟨ds2, .pu (plD P), hd2, rfl, ?_⟩
  clear F
  generalize plD P = PL at *
  generalize mpD m = MP at *
  generalize ((n : Nat) : Int) = N at *
  simp [-rg1_eq, -f_shl, -ap_range3, -List.map_replicate, ap_var, ap_retV, setSl_ok, fnOf_eq, bin1_eq, lc1_eq, okW, loose, wipeR, restR, lcE, wb1, wb2, wb3, wb4, wb5, wb6, wb7, L1_law, e1, e2, k1, k2, hne, qp]
theorem law_eq (ns : List Int) (hl : ns.length ≤ 63) : ∃ outs, g_law [.pu (Ow.scr (ns.map PySem.PyData.int))] = .ret (.pu (.bool true)) outs := by
  obtain ⟨ds0, hd0, e0⟩ := begin_ok ns hl
  obtain ⟨r1, ds1, hd1, a1, b1, e1⟩ := draw hd0 (m := 6) (by decide) (by decide)
  obtain ⟨n1, rfl⟩ : ∃ n : Nat, r1 = (n : Int) := ⟨r1.toNat, by omega⟩
  obtain ⟨ds2, cs, hd2, hcs, e2⟩ := library hd1 (e := n1) (by omega)
  obtain ⟨b, dsr, hdr, er⟩ := rare hd2 (m := 30) (by decide) (by decide)
  obtain ⟨M, hM, M0, M1⟩ : ∃ M : Int, M = (if b = true then 31 else 11) ∧ 0 < M ∧ M ≤ 31 := by
    cases b
    · exact ⟨11, rfl, by decide, by decide⟩
    · exact ⟨31, rfl, by decide, by decide⟩
  obtain ⟨r3, ds3, hd3, a3, b3, e3⟩ := draw hdr (m := 6) (by decide) (by decide)
  obtain ⟨n3, rfl⟩ : ∃ n : Nat, r3 = (n : Int) := ⟨r3.toNat, by omega⟩
  obtain ⟨r4, ds4, hd4, a4, b4, e4⟩ := draw hd3 (m := 6) (by decide) (by decide)
  obtain ⟨n4, rfl⟩ : ∃ n : Nat, r4 = (n : Int) := ⟨r4.toNat, by omega⟩
  obtain ⟨r5, ds5, hd5, a5, b5, e5⟩ := draw hd4 (m := M) (by omega) (by omega)
  obtain ⟨n5, rfl⟩ : ∃ n : Nat, r5 = (n : Int) := ⟨r5.toNat, by omega⟩
  obtain ⟨r6, ds6, hd6, a6, b6, e6⟩ := draw hd5 (m := 7) (by decide) (by decide)
  obtain ⟨n6, rfl⟩ : ∃ n : Nat, r6 = (n : Int) := ⟨r6.toNat, by omega⟩
  obtain ⟨ds7, m, hd7, hm, l1, l2, l3, l4, e7⟩ := mapped hd6 (i := n3) (r := n4) (c := n5) (o := n6) (by omega) (by omega) (by omega) (by omega) hcs
  have hsrc : ∀ x ∈ m.ms, x.2.length ≤ 1000 := fun x hx => by
    obtain ⟨i, hi, rfl⟩ := List.getElem_of_mem hx
    obtain ⟨q1, q2, _⟩ := hm.ms i _ (List.getElem?_eq_getElem hi)
    have := (hcs.2.1 _ q1).2.1
    omega
  have hb := blocks_of_ok m (by omega) (by omega) (by omega) (by omega) hsrc
  have hlb := law_blocks_ok m (by omega) (by omega) (by omega) (by omega) hsrc
  have hsz : m.size < 60 := by unfold Mp.size Mp.first; omega
  have hnB : (bls m).length ≤ 200 := by rw [bls_len]; omega
  have hdl := due_lc (SC := Ow.scr (ns.map PyData.int)) (LB := .tuple (cs.map clD)) (MA := .int M) (MP := mpD m) (dd := .li ds7) (bls m)
  have hbl : ((bls m).map bkL).length ≤ 16000000 := by rw [List.length_map]; omega
  have hne := neSame (bls_deep (bls m)) (by decide)
  have heq := eqSame (bls_deep (bls m)) (by decide)
  obtain ⟨ρ1, e8, dA, k, p, rfl, hdA, qk, qp⟩ := forL_all (g := gNm 6) (b := L1_law) (fun ρ => ∃ (ds : List D) (k p : Sl), ρ = [.pu (Ow.scr (ns.map PyData.int)), .ow false (.li ds), .pu (.tuple (cs.map clD)), .pu (.int M), .pu (mpD m), .pu (.tuple ((bls m).map bkT)), k, p, .no] ∧ DOK ds ∧ okS (some k) = true ∧ okS (some p) = true)
    (ds := rangeD 0 3) (ρ := [.pu (Ow.scr (ns.map PyData.int)), .ow false (.li ds7), .pu (.tuple (cs.map clD)), .pu (.int M), .pu (mpD m), .pu (.tuple ((bls m).map bkT)), .no, .no, .no]) (by
      rintro d hdm ρ ⟨ds, k, p, rfl, hd, qk, qp⟩
      obtain ⟨ds', p', hd', rp, es⟩ := step hcs hm hsz hnB hb hlb (SC := Ow.scr (ns.map PyData.int)) (LB := .tuple (cs.map clD)) (MA := .int M) (DU := .tuple ((bls m).map bkT)) hd (k := .pu d) rfl qp
      exact ⟨[.pu (Ow.scr (ns.map PyData.int)), .ow false (.li ds), .pu (.tuple (cs.map clD)), .pu (.int M), .pu (mpD m), .pu (.tuple ((bls m).map bkT)), .pu d, p, .no], _, by simp [setSl_ok, qk], es, ds', _, _, rfl, hd', rfl, rp⟩) ⟨ds7, _, _, rfl, hd7, rfl, rfl⟩
  refine ⟨[.pu (Ow.scr (ns.map PyData.int))], ?_⟩
  have hr3 : ∀ ρ, rg1 [.int 3] ρ = .ok (rangeD 0 3) ρ := fun ρ => rg1_nat (n := 3) (by decide) ρ
  have e2' : g__law_library [.ow true (.li ds1), .pu (.int ((n1 : Nat) : Int))] = .ret (.pu (.tuple (cs.map clD))) [.ow true (.li ds2), .pu (.int ((n1 : Nat) : Int))] := e2
  clear e2
  generalize Ow.scr (ns.map PyData.int) = SC at *
  generalize cs.map clD = CL at *
  generalize (bls m).map bkL = BL at *
  generalize (bls m).map bkT = BT at *
  generalize mpD m = MP at *
  generalize rangeD 0 3 = RG at *
  generalize ((n1 : Nat) : Int) = N1 at *
  generalize ((n3 : Nat) : Int) = N3 at *
  generalize ((n4 : Nat) : Int) = N4 at *
  generalize ((n5 : Nat) : Int) = N5 at *
  generalize ((n6 : Nat) : Int) = N6 at *
  cases b
  · obtain rfl : M = 11 := hM
    simp [-rg1_eq, -f_shl, -ap_range3, -List.map_replicate, ap_var, ap_retV, setSl_ok, fnOf_eq, bin1_eq, lc1_eq, okW, loose, wipeR, restR, lcE, wb1, wb2, wb3, wb4, wb5, wb6, wb7, g_law, b_law, e0, e1, e2', er, e3, e4, e5, e6, e7, hlb, hb, hdl, hbl, hne, heq, hr3, e8]
  · obtain rfl : M = 31 := hM
    simp [-rg1_eq, -f_shl, -ap_range3, -List.map_replicate, ap_var, ap_retV, setSl_ok, fnOf_eq, bin1_eq, lc1_eq, okW, loose, wipeR, restR, lcE, wb1, wb2, wb3, wb4, wb5, wb6, wb7, g_law, b_law, e0, e1, e2', er, e3, e4, e5, e6, e7, hlb, hb, hdl, hbl, hne, heq, hr3, e8]
end K36
namespace K36
open PySem PySem.Spec PyProof.Rows L2 Ow
def q_blocks_of : He.DefD := ⟨("blocks_of", none), "blocks_of", "blocks_of", defArgs s_blocks_of, defBody s_blocks_of, defScope s_blocks_of, [], []⟩
def q_block_places : He.DefD := ⟨("block_places", none), "block_places", "block_places", defArgs s_block_places, defBody s_block_places, defScope s_block_places, [], []⟩
def q_pins_of : He.DefD := ⟨("pins_of", none), "pins_of", "pins_of", defArgs s_pins_of, defBody s_pins_of, defScope s_pins_of, [], []⟩
def q_wired_signals : He.DefD := ⟨("wired_signals", none), "wired_signals", "wired_signals", defArgs s_wired_signals, defBody s_wired_signals, defScope s_wired_signals, [], []⟩
def q_spans_of : He.DefD := ⟨("spans_of", none), "spans_of", "spans_of", defArgs s_spans_of, defBody s_spans_of, defScope s_spans_of, [], []⟩
def q__law_begin : He.DefD := ⟨("_law_begin", none), "_law_begin", "_law_begin", defArgs s__law_begin, defBody s__law_begin, defScope s__law_begin, [], []⟩
def q__law_draw : He.DefD := ⟨("_law_draw", none), "_law_draw", "_law_draw", defArgs s__law_draw, defBody s__law_draw, defScope s__law_draw, [], []⟩
def q__law_rare : He.DefD := ⟨("_law_rare", none), "_law_rare", "_law_rare", defArgs s__law_rare, defBody s__law_rare, defScope s__law_rare, [], []⟩
def q__law_shuffled : He.DefD := ⟨("_law_shuffled", none), "_law_shuffled", "_law_shuffled", defArgs s__law_shuffled, defBody s__law_shuffled, defScope s__law_shuffled, [], []⟩
def q__law_drawn_signal : He.DefD := ⟨("_law_drawn_signal", none), "_law_drawn_signal", "_law_drawn_signal", defArgs s__law_drawn_signal, defBody s__law_drawn_signal, defScope s__law_drawn_signal, [], []⟩
def q__law_library : He.DefD := ⟨("_law_library", none), "_law_library", "_law_library", defArgs s__law_library, defBody s__law_library, defScope s__law_library, [], []⟩
def q__law_drawn_mapped : He.DefD := ⟨("_law_drawn_mapped", none), "_law_drawn_mapped", "_law_drawn_mapped", defArgs s__law_drawn_mapped, defBody s__law_drawn_mapped, defScope s__law_drawn_mapped, [], []⟩
def q__law_blocks : He.DefD := ⟨("_law_blocks", none), "_law_blocks", "_law_blocks", defArgs s__law_blocks, defBody s__law_blocks, defScope s__law_blocks, [], []⟩
def q__law_drawn_placement : He.DefD := ⟨("_law_drawn_placement", none), "_law_drawn_placement", "_law_drawn_placement", defArgs s__law_drawn_placement, defBody s__law_drawn_placement, defScope s__law_drawn_placement, [], []⟩
def q__law_pins : He.DefD := ⟨("_law_pins", none), "_law_pins", "_law_pins", defArgs s__law_pins, defBody s__law_pins, defScope s__law_pins, [], []⟩
def q__law_spans : He.DefD := ⟨("_law_spans", none), "_law_spans", "_law_spans", defArgs s__law_spans, defBody s__law_spans, defScope s__law_spans, [], []⟩
def q_law : He.DefD := ⟨("law", none), "law", "law", defArgs s_law, defBody s_law, defScope s_law, [], []⟩
def fn : List He.DefD := [q_blocks_of, q_block_places, q_pins_of, q_wired_signals, q_spans_of, q__law_begin, q__law_draw, q__law_rare, q__law_shuffled, q__law_drawn_signal, q__law_library, q__law_drawn_mapped, q__law_blocks, q__law_drawn_placement, q__law_pins, q__law_spans, q_law]
def fa : List He.Fa := [.glo "blocks_of", .glo "block_places", .glo "pins_of", .glo "wired_signals", .glo "spans_of", .glo "_law_begin", .glo "_law_draw", .glo "_law_rare", .glo "_law_shuffled", .glo "_law_drawn_signal", .glo "_law_library", .glo "_law_drawn_mapped", .glo "_law_blocks", .glo "_law_drawn_placement", .glo "_law_pins", .glo "_law_spans", .glo "law", .free "abs", .free "enumerate", .free "int", .free "len", .free "list", .free "max", .free "min", .free "range", .free "set", .free "sorted", .free "str", .free "tuple"]
def ex (K : PySem.W.Frag) : Bool := true
abbrev R : PySem.W.OpenRow := PySem.W.OpenLaw.row PySem.Challenge.rw_wiredossier_k36_spans
abbrev hk : PySem.W.Hook := hookQ 4 fa fn ex
def ob (s : PySem.W.SharedT) : He.AlD := obsQG 4 fa fn ex (HandSHeadRun.getT s)
theorem ob_eq (s : PySem.W.SharedT) : ob s = hk.obs s.abs := obsQG_eq (HandSHeadRun.getT_eq s)
abbrev ls : List Str := ["blocks_of", "block_places", "pins_of", "wired_signals", "spans_of", "_law_begin", "_law_draw", "_law_rare", "_law_shuffled", "_law_drawn_signal", "_law_library", "_law_drawn_mapped", "_law_blocks", "_law_drawn_placement", "_law_pins", "_law_spans"]
theorem hd_run (w : World) : HandSHeadRun.RunEq R (PySem.W.view R.prog [18]) hk ob 4000 ls w := by
  intro os
  kernel_rfl
theorem hd_facts {P : Program} {w : World} {K : PySem.W.Frag} {h : Heap} {mg : Str → Option Value} {f : Addr} (X : K.In h) (G : h.Ns mainGlobals mg) (hfa : mg ("law" : Str) = some (.ref f)) (c : He.SaysD fa fn K) (cx : ex K = true) :
    ∃ fd : FuncData, (∀ (s : Shared) (v : Value), BindsTo s fd ⟨[v], []⟩ [("script", v)]) ∧ ∀ base : Heap, K.In base → base.Ns mainGlobals mg → FnOk P w K mg base CX0 5 f fd ["script"] (spD K 1 g_law) := by
  unfold ex at cx
  have M : Mg K mg := ⟨He.free_ok X G (c.fact 17 (f := .free "abs") rfl), He.free_ok X G (c.fact 18 (f := .free "enumerate") rfl), He.free_ok X G (c.fact 19 (f := .free "int") rfl), He.free_ok X G (c.fact 20 (f := .free "len") rfl), He.free_ok X G (c.fact 21 (f := .free "list") rfl), He.free_ok X G (c.fact 22 (f := .free "max") rfl), He.free_ok X G (c.fact 23 (f := .free "min") rfl), He.free_ok X G (c.fact 24 (f := .free "range") rfl), He.free_ok X G (c.fact 25 (f := .free "set") rfl), He.free_ok X G (c.fact 26 (f := .free "sorted") rfl), He.free_ok X G (c.fact 27 (f := .free "str") rfl), He.free_ok X G (c.fact 28 (f := .free "tuple") rfl)⟩
  obtain ⟨fd_blocks_of, F_blocks_of⟩ := c.def_ 0 (d := q_blocks_of) rfl
  have e_blocks_of := He.glo_ok X G (c.fact 0 (f := .glo "blocks_of") rfl)
  obtain ⟨fd_block_places, F_block_places⟩ := c.def_ 1 (d := q_block_places) rfl
  have e_block_places := He.glo_ok X G (c.fact 1 (f := .glo "block_places") rfl)
  obtain ⟨fd_pins_of, F_pins_of⟩ := c.def_ 2 (d := q_pins_of) rfl
  have e_pins_of := He.glo_ok X G (c.fact 2 (f := .glo "pins_of") rfl)
  obtain ⟨fd_wired_signals, F_wired_signals⟩ := c.def_ 3 (d := q_wired_signals) rfl
  have e_wired_signals := He.glo_ok X G (c.fact 3 (f := .glo "wired_signals") rfl)
  obtain ⟨fd_spans_of, F_spans_of⟩ := c.def_ 4 (d := q_spans_of) rfl
  have e_spans_of := He.glo_ok X G (c.fact 4 (f := .glo "spans_of") rfl)
  obtain ⟨fd__law_begin, F__law_begin⟩ := c.def_ 5 (d := q__law_begin) rfl
  have e__law_begin := He.glo_ok X G (c.fact 5 (f := .glo "_law_begin") rfl)
  obtain ⟨fd__law_draw, F__law_draw⟩ := c.def_ 6 (d := q__law_draw) rfl
  have e__law_draw := He.glo_ok X G (c.fact 6 (f := .glo "_law_draw") rfl)
  obtain ⟨fd__law_rare, F__law_rare⟩ := c.def_ 7 (d := q__law_rare) rfl
  have e__law_rare := He.glo_ok X G (c.fact 7 (f := .glo "_law_rare") rfl)
  obtain ⟨fd__law_shuffled, F__law_shuffled⟩ := c.def_ 8 (d := q__law_shuffled) rfl
  have e__law_shuffled := He.glo_ok X G (c.fact 8 (f := .glo "_law_shuffled") rfl)
  obtain ⟨fd__law_drawn_signal, F__law_drawn_signal⟩ := c.def_ 9 (d := q__law_drawn_signal) rfl
  have e__law_drawn_signal := He.glo_ok X G (c.fact 9 (f := .glo "_law_drawn_signal") rfl)
  obtain ⟨fd__law_library, F__law_library⟩ := c.def_ 10 (d := q__law_library) rfl
  have e__law_library := He.glo_ok X G (c.fact 10 (f := .glo "_law_library") rfl)
  obtain ⟨fd__law_drawn_mapped, F__law_drawn_mapped⟩ := c.def_ 11 (d := q__law_drawn_mapped) rfl
  have e__law_drawn_mapped := He.glo_ok X G (c.fact 11 (f := .glo "_law_drawn_mapped") rfl)
  obtain ⟨fd__law_blocks, F__law_blocks⟩ := c.def_ 12 (d := q__law_blocks) rfl
  have e__law_blocks := He.glo_ok X G (c.fact 12 (f := .glo "_law_blocks") rfl)
  obtain ⟨fd__law_drawn_placement, F__law_drawn_placement⟩ := c.def_ 13 (d := q__law_drawn_placement) rfl
  have e__law_drawn_placement := He.glo_ok X G (c.fact 13 (f := .glo "_law_drawn_placement") rfl)
  obtain ⟨fd__law_pins, F__law_pins⟩ := c.def_ 14 (d := q__law_pins) rfl
  have e__law_pins := He.glo_ok X G (c.fact 14 (f := .glo "_law_pins") rfl)
  obtain ⟨fd__law_spans, F__law_spans⟩ := c.def_ 15 (d := q__law_spans) rfl
  have e__law_spans := He.glo_ok X G (c.fact 15 (f := .glo "_law_spans") rfl)
  obtain ⟨fd_law, F_law⟩ := c.def_ 16 (d := q_law) rfl
  have e_law := He.glo_ok X G (c.fact 16 (f := .glo "law") rfl)
  have e := hfa.symm.trans e_law
  cases e
  have b := FunD.bindsA (ps := ["script"]) F_law fun _ _ _ _ _ _ us hl => match us, hl with | [_], _ => rfl
  refine ⟨fd_law, fun s v => b s [v] rfl, fun base _ _ => ?_⟩
  have c_blocks_of : Cal P w K mg base 1 "blocks_of" ["mapped"] g_blocks_of := Cal.of (ok_blocks_of M F_blocks_of) e_blocks_of F_blocks_of fun _ _ _ _ _ _ us hl => match us, hl with | [_], _ => rfl
  have c_block_places : Cal P w K mg base 2 "block_places" ["mapped", "placement"] g_block_places := Cal.of (ok_block_places M F_block_places c_blocks_of) e_block_places F_block_places fun _ _ _ _ _ _ us hl => match us, hl with | [_, _], _ => rfl
  have c_pins_of : Cal P w K mg base 3 "pins_of" ["mapped", "placement"] g_pins_of := Cal.of (ok_pins_of M F_pins_of c_block_places c_blocks_of) e_pins_of F_pins_of fun _ _ _ _ _ _ us hl => match us, hl with | [_, _], _ => rfl
  have c_wired_signals : Cal P w K mg base 2 "wired_signals" ["mapped"] g_wired_signals := Cal.of (ok_wired_signals M F_wired_signals c_blocks_of) e_wired_signals F_wired_signals fun _ _ _ _ _ _ us hl => match us, hl with | [_], _ => rfl
  have c_spans_of : Cal P w K mg base 4 "spans_of" ["mapped", "placement"] g_spans_of := Cal.of (ok_spans_of M F_spans_of c_pins_of c_wired_signals) e_spans_of F_spans_of fun _ _ _ _ _ _ us hl => match us, hl with | [_, _], _ => rfl
  have c__law_begin : Cal P w K mg base 1 "_law_begin" ["script"] g__law_begin := Cal.of (ok__law_begin M F__law_begin) e__law_begin F__law_begin fun _ _ _ _ _ _ us hl => match us, hl with | [_], _ => rfl
  have c__law_draw : Cal P w K mg base 1 "_law_draw" ["d", "many"] g__law_draw := Cal.of (ok__law_draw M F__law_draw) e__law_draw F__law_draw fun _ _ _ _ _ _ us hl => match us, hl with | [_, _], _ => rfl
  have c__law_rare : Cal P w K mg base 2 "_law_rare" ["d", "many"] g__law_rare := Cal.of (ok__law_rare M F__law_rare c__law_draw) e__law_rare F__law_rare fun _ _ _ _ _ _ us hl => match us, hl with | [_, _], _ => rfl
  have c__law_shuffled : Cal P w K mg base 2 "_law_shuffled" ["d", "row"] g__law_shuffled := Cal.of (ok__law_shuffled M F__law_shuffled c__law_draw) e__law_shuffled F__law_shuffled fun _ _ _ _ _ _ us hl => match us, hl with | [_, _], _ => rfl
  have c__law_drawn_signal : Cal P w K mg base 2 "_law_drawn_signal" ["d", "size"] g__law_drawn_signal := Cal.of (ok__law_drawn_signal M F__law_drawn_signal c__law_draw) e__law_drawn_signal F__law_drawn_signal fun _ _ _ _ _ _ us hl => match us, hl with | [_, _], _ => rfl
  have c__law_library : Cal P w K mg base 3 "_law_library" ["d", "extra"] g__law_library := Cal.of (ok__law_library M F__law_library c__law_draw c__law_shuffled) e__law_library F__law_library fun _ _ _ _ _ _ us hl => match us, hl with | [_, _], _ => rfl
  have c__law_drawn_mapped : Cal P w K mg base 3 "_law_drawn_mapped" ["d", "inputs", "regs", "cells", "outs", "library"] g__law_drawn_mapped := Cal.of (ok__law_drawn_mapped M F__law_drawn_mapped c__law_draw c__law_drawn_signal c__law_shuffled) e__law_drawn_mapped F__law_drawn_mapped fun _ _ _ _ _ _ us hl => match us, hl with | [_, _, _, _, _, _], _ => rfl
  have c__law_blocks : Cal P w K mg base 1 "_law_blocks" ["mapped"] g__law_blocks := Cal.of (ok__law_blocks M F__law_blocks) e__law_blocks F__law_blocks fun _ _ _ _ _ _ us hl => match us, hl with | [_], _ => rfl
  have c__law_drawn_placement : Cal P w K mg base 3 "_law_drawn_placement" ["d", "rows", "mapped"] g__law_drawn_placement := Cal.of (ok__law_drawn_placement M F__law_drawn_placement c__law_blocks c__law_draw c__law_shuffled) e__law_drawn_placement F__law_drawn_placement fun _ _ _ _ _ _ us hl => match us, hl with | [_, _, _], _ => rfl
  have c__law_pins : Cal P w K mg base 2 "_law_pins" ["mapped", "placement"] g__law_pins := Cal.of (ok__law_pins M F__law_pins c__law_blocks) e__law_pins F__law_pins fun _ _ _ _ _ _ us hl => match us, hl with | [_, _], _ => rfl
  have c__law_spans : Cal P w K mg base 3 "_law_spans" ["mapped", "placement"] g__law_spans := Cal.of (ok__law_spans M F__law_spans c__law_pins) e__law_spans F__law_spans fun _ _ _ _ _ _ us hl => match us, hl with | [_, _], _ => rfl
  exact ok_law M F_law c__law_begin c__law_blocks c__law_draw c__law_drawn_mapped c__law_drawn_placement c__law_library c__law_rare c__law_spans c_blocks_of c_spans_of
end K36
open PySem PySem.W PySem.Calls PyProof.Rows
theorem PySem.Challenge.cw_wiredossier_k36_spans_holds : PySem.Challenge.rw_wiredossier_k36_spans.Holds := by
  w_on; o_law
  refine HandSHeadRun.head_any (r := OpenLaw.row PySem.Challenge.rw_wiredossier_k36_spans) (q := view (OpenLaw.row PySem.Challenge.rw_wiredossier_k36_spans).prog [18]) (H := K36.hk) (ob := K36.ob) (M := 4000) (loose := K36.ls) (d := HandSHeadRun.topDef (OpenLaw.row PySem.Challenge.rw_wiredossier_k36_spans).prog 18) (kwd := []) K36.ob_eq
    (by kernel_rfl) (fun s => by kernel_rfl) K36.hd_run (by kernel_rfl) (by kernel_rfl) (by kernel_rfl) (by rfl) (by first | assumption | decide +kernel) (by decide +kernel) ⟨rfl, rfl, rfl, rfl, rfl, by decide +kernel⟩ ?hw ?hc
  case hw => w_witness2
  case hc =>
    refine L2.walk_ofE (l := PySem.Challenge.rw_wiredossier_k36_spans) (n := 63) (k := 5) (x := "script") (CX := L2.CX0) rfl (by decide) (by kernel_rfl) ⟨rfl, by decide, by decide⟩ ?F (fun _ _ _ _ z => z)
    intro w mg fa h Y G hmg0
    obtain ⟨K, KX, c, cx⟩ := Y
    have hmg : mg ("law" : PySem.Str) = some (.ref fa) := by
      have e : (HandSHeadRun.topDef (OpenLaw.row PySem.Challenge.rw_wiredossier_k36_spans).prog 18).name = ("law" : PySem.Str) := by kernel_rfl
      rw [← e]
      exact hmg0
    obtain ⟨fd, hb, hF⟩ := K36.hd_facts (P := (PySem.Challenge.rw_wiredossier_k36_spans).prog) (w := w) KX G hmg c cx
    exact ⟨K, fd, Ow.spD K 1 K36.g_law, KX, hb, fun H a ns hl _ hS => Ow.sp_law (outs := []) (K36.law_eq ns hl) hS, hF⟩
