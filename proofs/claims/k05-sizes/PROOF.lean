import PyProof.Rows.All
import HandS.ForMost
import HandS.ForExc
import HandS.Walk
import HandS.Flow
import HandS.Zip
import HandS.Conv
import HandS.NoneIn
import HandS.More
import HandS.StrMore
import HandS.SortInts
import HandS.Wide
import HandS.WideMore
import HandS.RevRange
import HandS.IsInst
import HandS.Defaults
import HandS.TupAny
import HandS.WideBits
import HandS.Steps
import HandS.Head0
import HandS.Head1
import HandS.Head2
import HandS.HeadEnd
import HandS.HeadHook1
import HandS.HeadHook2
import KE.DataMinMax
import KE.SortData
import HandS.TupMul
import HandS.SortKw
import HandS.Style
import KE.GoesMore
import PyProof.EnumMake
import HandS.SetKeys
import HandS.SetFor
import HandS.Strs
import KE.KExcSuper
import HandS.ExcSuper
import HandS.ExcInit
import HandS.ExcCtx
import KE.KExcIs
import HandS.ExcField
import HandS.ExcIs
import HandS.Text
import HandS.Deep
import KE.GoesZip
import HandS.DictComp
import HandS.HotCalls
import PySem.Challenge.RW_wiredossier_k05_sizes
set_option Elab.async false
set_option linter.all false
set_option maxRecDepth 100000
set_option maxHeartbeats 0
/-! Ow: a layer over HandS. A def's body is read as a plain Lean program over data (PyData) with owned lists; the heap is dealt with once, here. -/
namespace Ow
open PySem L2
abbrev D := PyData
/-! ### data that stands still: lists and tuples of the abstract heap, at any depth; a list that is only known to be readable (the script) is told by a word of its own -/
abbrev scr (ds : List D) : D := .dict [(.none, .list ds)]
/-- a tuple that stands in the written part -/
abbrev kon (ds : List D) : D := .dict [(.bool true, .tuple ds)]
/-- a caught exception, named by its place -/
abbrev hnd (a : Addr) : D := .dict [(.bool true, .int a)]
def keyD : Key → PyData
  | .inl i => .int i
  | .inr x => .str x
mutual
inductive Rp (K : PySem.W.Frag) (Z : Hp) : V → PyData → Prop
  | non : Rp K Z .non .none
  | bl (b : Bool) : Rp K Z (.bl b) (.bool b)
  | int (i : Int) : Rp K Z (.int i) (.int i)
  | str (x : Str) : Rp K Z (.str x) (.str x)
  | lst {a : Addr} {xs : List V} {ds : List PyData} : Z a = some (.lst xs) → RpAll K Z xs ds → Rp K Z (.ref a) (.list ds)
  | tup {a : Addr} {xs : List V} {ds : List PyData} : Z a = some (.tup xs) → RpAll K Z xs ds → Rp K Z (.ref a) (.tuple ds)
  | kon {a : Addr} {xs : List V} {ds : List PyData} : SqT K Z a xs → RpAll K Z xs ds → Rp K Z (.ref a) (kon ds)
  | frz {a : Addr} {xs : List V} {ds : List PyData} : SqL K Z a xs → RpAll K Z xs ds → Rp K Z (.ref a) (scr ds)
  | exn {a : Addr} : Rp K Z (.ref a) (hnd a)
  | dct {a : Addr} {kvs : List (Key × V)} {ds : List (PyData × PyData)} : Z a = some (.dK kvs) → RpKvs K Z kvs ds → Rp K Z (.ref a) (.dict ((.bool false, .none) :: ds))
inductive RpKvs (K : PySem.W.Frag) (Z : Hp) : List (Key × V) → List (PyData × PyData) → Prop
  | nil : RpKvs K Z [] []
  | cons {k : Key} {v : V} {e d : PyData} {kvs : List (Key × V)} {ds : List (PyData × PyData)} : e = keyD k → Rp K Z v d → RpKvs K Z kvs ds → RpKvs K Z ((k, v) :: kvs) ((e, d) :: ds)
inductive RpAll (K : PySem.W.Frag) (Z : Hp) : List V → List PyData → Prop
  | nil : RpAll K Z [] []
  | cons {v : V} {vs : List V} {d : PyData} {ds : List PyData} : Rp K Z v d → RpAll K Z vs ds → RpAll K Z (v :: vs) (d :: ds)
end
theorem sqL_mono {K : PySem.W.Frag} {Z Z' : Hp} {a : Addr} {xs : List V} (e : Same Z Z') (h : SqL K Z a xs) : SqL K Z' a xs := e.seq h
theorem sqT_mono {K : PySem.W.Frag} {Z Z' : Hp} {a : Addr} {xs : List V} (e : Same Z Z') (h : SqT K Z a xs) : SqT K Z' a xs := by
  rcases h with (h | ⟨o, h⟩) | h
  · exact .inl (.inl (e _ _ h))
  · exact .inl (.inr ⟨o, e _ _ h⟩)
  · exact .inr h
section
variable {K : PySem.W.Frag} {Z Z' : Hp}
mutual
theorem Rp.mono {v : V} {d : D} (h : Rp K Z v d) (e : Same Z Z') : Rp K Z' v d := by
  cases h with
  | non => exact .non
  | bl b => exact .bl b
  | int i => exact .int i
  | str x => exact .str x
  | lst h1 h2 => exact .lst (e _ _ h1) (h2.mono e)
  | tup h1 h2 => exact .tup (e _ _ h1) (h2.mono e)
  | kon h1 h2 => exact .kon (sqT_mono e h1) (h2.mono e)
  | frz h1 h2 => exact .frz (sqL_mono e h1) (h2.mono e)
  | exn => exact .exn
  | dct h1 h2 => exact .dct (e _ _ h1) (h2.mono e)
theorem RpKvs.mono {vs : List (Key × V)} {ds : List (D × D)} (h : RpKvs K Z vs ds) (e : Same Z Z') : RpKvs K Z' vs ds := by
  cases h with
  | nil => exact .nil
  | cons h0 h1 h2 => exact .cons h0 (h1.mono e) (h2.mono e)
theorem RpAll.mono {vs : List V} {ds : List D} (h : RpAll K Z vs ds) (e : Same Z Z') : RpAll K Z' vs ds := by
  cases h with
  | nil => exact .nil
  | cons h1 h2 => exact .cons (h1.mono e) (h2.mono e)
end
mutual
theorem Rp.dp : ∀ {v : V} {d : D}, Rp K Z v d → d.canLay0 = true → Dp K Z v d
  | _, .none, h, _ => by cases h; exact .non
  | _, .bool b, h, _ => by cases h; exact .bl b
  | _, .int b, h, _ => by cases h; exact .int b
  | _, .str b, h, _ => by cases h; exact .str b
  | _, .list ds, h, c => by
    cases h with
    | lst h1 h2 => exact .lst (SqL.of h1) (RpAll.dp h2 (by simpa [PyData.canLay0] using c))
  | _, .tuple ds, h, c => by
    cases h with
    | tup h1 h2 => exact .tup (SqT.of h1) (RpAll.dp h2 (by simpa [PyData.canLay0] using c))
  | _, .dict _, _, c => by simp [PyData.canLay0] at c
theorem RpAll.dp : ∀ {vs : List V} {ds : List D}, RpAll K Z vs ds → PyData.canLayAll0 ds = true → DpAll K Z vs ds
  | _, [], h, _ => by cases h; exact .nil
  | _, d :: ds, h, c => by
    cases h with
    | cons h1 h2 =>
      have c' : d.canLay0 = true ∧ PyData.canLayAll0 ds = true := by simpa [PyData.canLayAll0] using c
      exact .cons (Rp.dp h1 c'.1) (RpAll.dp h2 c'.2)
end
end
theorem RpAll.length {K : PySem.W.Frag} {Z : Hp} : ∀ {vs : List V} {ds : List D}, RpAll K Z vs ds → vs.length = ds.length
  | _, _, .nil => rfl
  | _, _, .cons _ h => by simp [RpAll.length h]
theorem RpAll.get {K : PySem.W.Frag} {Z : Hp} : ∀ {vs : List V} {ds : List D} {i : Nat} {d : D}, RpAll K Z vs ds → ds[i]? = some d → ∃ v, vs[i]? = some v ∧ Rp K Z v d
  | _, _, _, _, .nil, e => by simp at e
  | _, _, 0, _, .cons h _, e => by simp at e; subst e; exact ⟨_, rfl, h⟩
  | _, _, i + 1, _, .cons _ h, e => by
    obtain ⟨v, q, r⟩ := RpAll.get (i := i) h (by simpa using e)
    exact ⟨v, by simpa using q, r⟩
theorem RpAll.get' {K : PySem.W.Frag} {Z : Hp} : ∀ {vs : List V} {ds : List D} {i : Nat} {v : V}, RpAll K Z vs ds → vs[i]? = some v → ∃ d, ds[i]? = some d ∧ Rp K Z v d
  | _, _, _, _, .nil, e => by simp at e
  | _, _, 0, _, .cons h _, e => by simp at e; subst e; exact ⟨_, rfl, h⟩
  | _, _, i + 1, _, .cons _ h, e => by
    obtain ⟨v, q, r⟩ := RpAll.get' (i := i) h (by simpa using e)
    exact ⟨v, by simpa using q, r⟩
theorem RpAll.append {K : PySem.W.Frag} {Z : Hp} : ∀ {vs ws : List V} {ds es : List D}, RpAll K Z vs ds → RpAll K Z ws es → RpAll K Z (vs ++ ws) (ds ++ es)
  | _, _, _, _, .nil, h => h
  | _, _, _, _, .cons q r, h => .cons q (RpAll.append r h)
theorem RpAll.take {K : PySem.W.Frag} {Z : Hp} : ∀ (n : Nat) {vs : List V} {ds : List D}, RpAll K Z vs ds → RpAll K Z (vs.take n) (ds.take n)
  | 0, _, _, _ => by simp; exact .nil
  | n + 1, _, _, .nil => by simp; exact .nil
  | n + 1, _, _, .cons q r => by simp; exact .cons q (RpAll.take n r)
theorem RpAll.drop {K : PySem.W.Frag} {Z : Hp} : ∀ (n : Nat) {vs : List V} {ds : List D}, RpAll K Z vs ds → RpAll K Z (vs.drop n) (ds.drop n)
  | 0, _, _, h => by simpa using h
  | n + 1, _, _, .nil => by simp; exact .nil
  | n + 1, _, _, .cons q r => by simp; exact RpAll.drop n r
theorem RpAll.set {K : PySem.W.Frag} {Z : Hp} {v : V} {d : D} (h : Rp K Z v d) : ∀ (n : Nat) {vs : List V} {ds : List D}, RpAll K Z vs ds → RpAll K Z (vs.set n v) (ds.set n d)
  | _, _, _, .nil => by simp; exact .nil
  | 0, _, _, .cons q r => by simp; exact .cons h r
  | n + 1, _, _, .cons q r => by simp; exact .cons q (RpAll.set h n r)
theorem RpAll.one {K : PySem.W.Frag} {Z : Hp} {v : V} {d : D} (h : Rp K Z v d) : RpAll K Z [v] [d] := .cons h .nil
theorem RpAll.eraseIdx {K : PySem.W.Frag} {Z : Hp} : ∀ (n : Nat) {vs : List V} {ds : List D}, RpAll K Z vs ds → RpAll K Z (vs.eraseIdx n) (ds.eraseIdx n)
  | _, _, _, .nil => by simp; exact .nil
  | 0, _, _, .cons q r => by simp; exact r
  | n + 1, _, _, .cons q r => by simp; exact .cons q (RpAll.eraseIdx n r)
theorem RpAll.reverse {K : PySem.W.Frag} {Z : Hp} {vs : List V} {ds : List D} (h : RpAll K Z vs ds) : RpAll K Z vs.reverse ds.reverse := by
  induction ds generalizing vs with
  | nil => cases h; exact .nil
  | cons d ds ih =>
    cases h with
    | cons q r => rw [List.reverse_cons, List.reverse_cons]; exact RpAll.append (ih r) (RpAll.one q)
theorem RpAll.dropLast {K : PySem.W.Frag} {Z : Hp} {vs : List V} {ds : List D} (h : RpAll K Z vs ds) : RpAll K Z vs.dropLast ds.dropLast := by
  rw [List.dropLast_eq_take, List.dropLast_eq_take, h.length]; exact h.take _
theorem RpAll.ints {K : PySem.W.Frag} {Z : Hp} : ∀ (ns : List Int), RpAll K Z (ns.map V.int) (ns.map PyData.int)
  | [] => .nil
  | n :: ns => .cons (.int n) (RpAll.ints ns)
theorem RpAll.strs {K : PySem.W.Frag} {Z : Hp} : ∀ (ns : List Str), RpAll K Z (ns.map V.str) (ns.map PyData.str)
  | [] => .nil
  | n :: ns => .cons (.str n) (RpAll.strs ns)
theorem RpAll.of_ints {K : PySem.W.Frag} {Z : Hp} : ∀ {vs : List V} {ns : List Int}, RpAll K Z vs (ns.map PyData.int) → vs = ns.map V.int
  | _, [], h => by cases h; rfl
  | _, n :: ns, h => by
    cases h with
    | cons h1 h2 => cases h1; rw [RpAll.of_ints h2]; rfl
theorem RpAll.of_strs {K : PySem.W.Frag} {Z : Hp} : ∀ {vs : List V} {ns : List Str}, RpAll K Z vs (ns.map PyData.str) → vs = ns.map V.str
  | _, [], h => by cases h; rfl
  | _, n :: ns, h => by
    cases h with
    | cons h1 h2 => cases h1; rw [RpAll.of_strs h2]; rfl
theorem RpAll.of_bools {K : PySem.W.Frag} {Z : Hp} : ∀ {vs : List V} {ns : List Bool}, RpAll K Z vs (ns.map PyData.bool) → vs = ns.map V.bl
  | _, [], h => by cases h; rfl
  | _, n :: ns, h => by
    cases h with
    | cons h1 h2 => cases h1; rw [RpAll.of_bools h2]; rfl
/-! ### owned things -/
inductive Ct where
  | li (ds : List D)
  | dk (kvs : List (Key × D))
  | dt (kvs : List (List Key × D))
/-- own things in own things -/
inductive Nt where
  /-- a list of lists -/
  | li (xss : List (List D))
  /-- a dict of dicts of lists -/
  | dd (kvs : List (Key × List (Key × List D)))
inductive Sl where
  | no
  | pu (d : D)
  | ow (pin : Bool) (c : Ct)
  | ll (n : Nt)
  /-- the list at place j of slot k -/
  | al (k j : Nat)
abbrev Rho := List Sl

def KvR {κ : Type} (K : PySem.W.Frag) (Z : Hp) : List (κ × V) → List (κ × D) → Prop := Paired fun (p : κ × V) (q : κ × D) => p.1 = q.1 ∧ Rp K Z p.2 q.2
theorem KvR.mono {κ : Type} {K : PySem.W.Frag} {Z Z' : Hp} {p : List (κ × V)} {q : List (κ × D)} (h : KvR K Z p q) (e : Same Z Z') : KvR K Z' p q :=
  Paired.mapP h fun _ _ r => ⟨r.1, Rp.mono r.2 e⟩
def CtR (K : PySem.W.Frag) (Z : Hp) : HO → Ct → Prop
  | .lst vs, .li ds => RpAll K Z vs ds
  | .dK kvs, .dk eds => KvR K Z kvs eds
  | .dT kvs, .dt eds => KvR K Z kvs eds
  | _, _ => False
theorem CtR.mono {K : PySem.W.Frag} {Z Z' : Hp} {o : HO} {c : Ct} (h : CtR K Z o c) (e : Same Z Z') : CtR K Z' o c := by
  cases o <;> cases c <;> first | exact h.elim | exact RpAll.mono h e | exact KvR.mono h e | exact h
theorem CtR.mu {K : PySem.W.Frag} {Z : Hp} {o : HO} {c : Ct} (h : CtR K Z o c) : Mut (some o) := by
  cases o <;> cases c <;> first | exact h.elim | trivial

/-- the ground of a body: the abstract heap and the still data at its entry, the slots that hold what the caller lent -/
structure Gm where
  H0 : Hp
  Z0 : Hp
  pins : List (Nat × Addr)
def Gm.lent (G : Gm) (a : Addr) : Prop := ∃ i, (i, a) ∈ G.pins

/-! own things in own things -/
def ddF (A : List (Key × Addr × List (Key × Addr))) : List Addr := A.flatMap fun t => t.2.1 :: t.2.2.map (·.2)
inductive NR (P : List V → List D → Prop) (H : Hp) : V → Nt → List Addr → Prop
  | li {a : Addr} {bs : List Addr} {xss : List (List D)} : H a = some (.lst (bs.map V.ref)) → Paired (fun b xs => ∃ vs, H b = some (.lst vs) ∧ P vs xs) bs xss → NR P H (.ref a) (.li xss) (a :: bs)
  | dd {a : Addr} {A : List (Key × Addr × List (Key × Addr))} {kvs : List (Key × List (Key × List D))} : H a = some (.dK (A.map fun t => (t.1, V.ref t.2.1))) →
      Paired (fun (t : Key × Addr × List (Key × Addr)) (m : Key × List (Key × List D)) => t.1 = m.1 ∧ H t.2.1 = some (.dK (t.2.2.map fun q => (q.1, V.ref q.2))) ∧ Paired (fun (q : Key × Addr) (x : Key × List D) => q.1 = x.1 ∧ ∃ vs, H q.2 = some (.lst vs) ∧ P vs x.2) t.2.2 m.2) A kvs → NR P H (.ref a) (.dd kvs) (a :: ddF A)
theorem paired_imp {α β : Type} {P Q : α → β → Prop} : ∀ {l : List α} {m : List β}, Paired P l m → (∀ a b, a ∈ l → P a b → Q a b) → Paired Q l m
  | _, _, .nil, _ => .nil
  | _, _, .cons h r, k => .cons (k _ _ List.mem_cons_self h) (paired_imp r fun a b ha => k a b (List.mem_cons_of_mem _ ha))
theorem paired_ex {α β : Type} {P : α → β → Prop} {a : α} : ∀ {l : List α} {m : List β}, Paired P l m → a ∈ l → ∃ b, P a b
  | _, _, .nil, h => by cases h
  | _, _, .cons h r, k => by
    rcases List.mem_cons.mp k with rfl | k
    · exact ⟨_, h⟩
    · exact paired_ex r k
theorem ddF_in {A : List (Key × Addr × List (Key × Addr))} {t : Key × Addr × List (Key × Addr)} (h : t ∈ A) : t.2.1 ∈ ddF A ∧ ∀ q ∈ t.2.2, q.2 ∈ ddF A :=
  ⟨List.mem_flatMap.mpr ⟨t, h, List.mem_cons_self⟩, fun q hq => List.mem_flatMap.mpr ⟨t, h, List.mem_cons_of_mem _ (List.mem_map.mpr ⟨q, hq, rfl⟩)⟩⟩
theorem NR.mono {P P' : List V → List D → Prop} {H H' : Hp} {v : V} {n : Nt} {fs : List Addr} (h : NR P H v n fs) (hp : ∀ vs xs, P vs xs → P' vs xs) (hh : ∀ b ∈ fs, ∀ o, H b = some o → H' b = some o) : NR P' H' v n fs := by
  cases h with
  | li h1 h2 => exact .li (hh _ List.mem_cons_self _ h1) (paired_imp h2 fun b xs hb ⟨vs, q1, q2⟩ => ⟨vs, hh b (List.mem_cons_of_mem _ hb) _ q1, hp _ _ q2⟩)
  | dd h1 h2 => exact .dd (hh _ List.mem_cons_self _ h1) (paired_imp h2 fun t m ht ⟨q1, q2, q3⟩ => ⟨q1, hh _ (List.mem_cons_of_mem _ (ddF_in ht).1) _ q2, paired_imp q3 fun q x hq ⟨r1, vs, r2, r3⟩ => ⟨r1, vs, hh _ (List.mem_cons_of_mem _ ((ddF_in ht).2 q hq)) _ r2, hp _ _ r3⟩⟩)
theorem NR.live {P : List V → List D → Prop} {H : Hp} {v : V} {n : Nt} {fs : List Addr} (h : NR P H v n fs) {b : Addr} (hb : b ∈ fs) : ∃ o, H b = some o := by
  cases h with
  | li h1 h2 =>
    rcases List.mem_cons.mp hb with rfl | hb
    · exact ⟨_, h1⟩
    · obtain ⟨_, vs, q, _⟩ := paired_ex h2 hb; exact ⟨_, q⟩
  | dd h1 h2 =>
    rcases List.mem_cons.mp hb with rfl | hb
    · exact ⟨_, h1⟩
    · obtain ⟨t, ht, hb⟩ := List.mem_flatMap.mp hb
      obtain ⟨m, q1, q2, q3⟩ := paired_ex h2 ht
      rcases List.mem_cons.mp hb with rfl | hb
      · exact ⟨_, q2⟩
      · obtain ⟨q, hq, rfl⟩ := List.mem_map.mp hb
        obtain ⟨x, _, vs, r, _⟩ := paired_ex q3 hq
        exact ⟨_, r⟩
theorem refs_inj : ∀ {bs cs : List Addr}, bs.map V.ref = cs.map V.ref → bs = cs
  | [], [], _ => rfl
  | [], _ :: _, h => by cases h
  | _ :: _, [], h => by cases h
  | b :: bs, c :: cs, h => by
    rw [List.map_cons, List.map_cons] at h
    obtain ⟨h1, h2⟩ := List.cons.inj h
    cases h1
    rw [refs_inj h2]
theorem krefs_inj : ∀ {bs cs : List (Key × Addr)}, (bs.map fun q => (q.1, V.ref q.2)) = (cs.map fun q => (q.1, V.ref q.2)) → bs = cs
  | [], [], _ => rfl
  | [], _ :: _, h => by cases h
  | _ :: _, [], h => by cases h
  | (k, b) :: bs, (l, c) :: cs, h => by
    rw [List.map_cons, List.map_cons] at h
    obtain ⟨h1, h2⟩ := List.cons.inj h
    cases h1
    rw [krefs_inj h2]
theorem dd_inj {H : Hp} : ∀ {A B : List (Key × Addr × List (Key × Addr))}, (A.map fun t => (t.1, V.ref t.2.1)) = (B.map fun t => (t.1, V.ref t.2.1)) →
    (∀ t ∈ A, H t.2.1 = some (.dK (t.2.2.map fun q => (q.1, V.ref q.2)))) → (∀ t ∈ B, H t.2.1 = some (.dK (t.2.2.map fun q => (q.1, V.ref q.2)))) → A = B
  | [], [], _, _, _ => rfl
  | [], _ :: _, h, _, _ => by cases h
  | _ :: _, [], h, _, _ => by cases h
  | (k, b, m) :: A, (l, c, n) :: B, h, hA, hB => by
    rw [List.map_cons, List.map_cons] at h
    obtain ⟨h1, h2⟩ := List.cons.inj h
    cases h1
    have q1 := hA _ List.mem_cons_self
    have q2 := hB _ List.mem_cons_self
    have q3 := q1.symm.trans q2
    injection q3 with q3
    injection q3 with q3
    have q4 : m = n := krefs_inj q3
    rw [q4, dd_inj h2 (fun t ht => hA t (List.mem_cons_of_mem _ ht)) fun t ht => hB t (List.mem_cons_of_mem _ ht)]
theorem NR.det {P P' : List V → List D → Prop} {H : Hp} {v : V} {n : Nt} {fs fs' : List Addr} (h : NR P H v n fs) (h' : NR P' H v n fs') : fs = fs' := by
  cases h with
  | li h1 h2 =>
    cases h' with
    | li q1 q2 =>
      have := h1.symm.trans q1
      injection this with this
      injection this with this
      rw [refs_inj this]
  | dd h1 h2 =>
    cases h' with
    | dd q1 q2 =>
      have := h1.symm.trans q1
      injection this with this
      injection this with this
      rw [dd_inj this (fun t ht => (paired_ex h2 ht).choose_spec.2.1) fun t ht => (paired_ex q2 ht).choose_spec.2.1]
structure LLat (K : PySem.W.Frag) (G : Gm) (Z : Hp) (ρ : Rho) (σ : St) (H : Hp) (i : Nat) (v : V) (fs : List Addr) (n : Nt) : Prop where
  s : σ[i]? = some (some v)
  r : NR (RpAll K Z) H v n fs
  nd : fs.Nodup
  z : ∀ b ∈ fs, Z b = none
  g : ∀ b ∈ fs, G.H0 b = none
  w : ∀ b ∈ fs, ∀ (j : Nat) p c, ρ[j]? = some (Sl.ow p c) → σ[j]? ≠ some (some (V.ref b))
structure LX (K : PySem.W.Frag) (G : Gm) (Z : Hp) (ρ : Rho) (σ : St) (H : Hp) : Prop where
  ll : ∀ (i : Nat) n, ρ[i]? = some (Sl.ll n) → ∃ v fs, LLat K G Z ρ σ H i v fs n
  one : ∀ (i j : Nat) n m, ρ[i]? = some (Sl.ll n) → ρ[j]? = some (Sl.ll m) → i = j
  al : ∀ (i k j : Nat) n, ρ[i]? = some (Sl.al k j) → ρ[k]? = some (Sl.ll n) → ∀ (a : Addr) (bs : List Addr), σ[k]? = some (some (V.ref a)) → H a = some (.lst (bs.map V.ref)) → ∃ b, bs[j]? = some b ∧ σ[i]? = some (some (V.ref b))
/-- an address of such a thing -/
def InF (ρ : Rho) (σ : St) (H : Hp) (b : Addr) : Prop := ∃ (i : Nat) (n : Nt) (v : V) (fs : List Addr), ρ[i]? = some (Sl.ll n) ∧ σ[i]? = some (some v) ∧ NR (fun _ _ => True) H v n fs ∧ b ∈ fs
theorem LLat.inF {K : PySem.W.Frag} {G : Gm} {Z : Hp} {ρ : Rho} {σ : St} {H : Hp} {i : Nat} {v : V} {fs : List Addr} {n : Nt} (A : LLat K G Z ρ σ H i v fs n) (e : ρ[i]? = some (Sl.ll n)) {b : Addr} (hb : b ∈ fs) : InF ρ σ H b :=
  ⟨i, n, v, fs, e, A.s, A.r.mono (fun _ _ _ => trivial) (fun _ _ _ h => h), hb⟩
theorem LX.frame {K : PySem.W.Frag} {G G' : Gm} {Z Z' : Hp} {ρ ρ' : Rho} {σ σ' : St} {H H' : Hp} (L : LX K G Z ρ σ H)
    (hs : ∀ (i : Nat) n, ρ'[i]? = some (Sl.ll n) → ρ[i]? = some (Sl.ll n) ∧ σ'[i]? = σ[i]?)
    (ha : ∀ (i k j : Nat), ρ'[i]? = some (Sl.al k j) → ρ[i]? = some (Sl.al k j) ∧ σ'[i]? = σ[i]?)
    (hz : Same Z Z')
    (hk : ∀ b o, InF ρ σ H b → Z b = none → G.H0 b = none → (∀ (j : Nat) p c, ρ[j]? = some (Sl.ow p c) → σ[j]? ≠ some (some (V.ref b))) → H b = some o → H' b = some o ∧ Z' b = none ∧ G'.H0 b = none ∧ ∀ (j : Nat) p c, ρ'[j]? = some (Sl.ow p c) → σ'[j]? ≠ some (some (V.ref b))) : LX K G' Z' ρ' σ' H' where
  ll := fun i n e => by
    obtain ⟨e1, e2⟩ := hs i n e
    obtain ⟨v, fs, A⟩ := L.ll i n e1
    have kk : ∀ b ∈ fs, ∀ o, H b = some o → H' b = some o ∧ Z' b = none ∧ G'.H0 b = none ∧ ∀ (j : Nat) p c, ρ'[j]? = some (Sl.ow p c) → σ'[j]? ≠ some (some (V.ref b)) := fun b hb o ho => hk b o (A.inF e1 hb) (A.z b hb) (A.g b hb) (A.w b hb) ho
    refine ⟨v, fs, by rw [e2]; exact A.s, A.r.mono (fun _ _ h => h.mono hz) fun b hb o ho => (kk b hb o ho).1, A.nd, fun b hb => ?_, fun b hb => ?_, fun b hb => ?_⟩
    · obtain ⟨o, ho⟩ := A.r.live hb; exact (kk b hb o ho).2.1
    · obtain ⟨o, ho⟩ := A.r.live hb; exact (kk b hb o ho).2.2.1
    · obtain ⟨o, ho⟩ := A.r.live hb; exact (kk b hb o ho).2.2.2
  one := fun i j n m h1 h2 => L.one i j n m (hs i n h1).1 (hs j m h2).1
  al := fun i k j n h1 h2 a bs h3 h4 => by
    obtain ⟨e1, e2⟩ := ha i k j h1
    obtain ⟨e3, e4⟩ := hs k n h2
    obtain ⟨v, fs, A⟩ := L.ll k n e3
    rw [e4] at h3
    have hva : v = .ref a := by
      have := A.s.symm.trans h3
      cases this; rfl
    subst hva
    have hfa : a ∈ fs := by
      have r := A.r
      cases r <;> exact List.mem_cons_self
    obtain ⟨o, ho⟩ := A.r.live hfa
    have h5 := (hk a o (A.inF e3 hfa) (A.z a hfa) (A.g a hfa) (A.w a hfa) ho).1
    rw [h5] at h4
    cases h4
    rw [e2]
    exact L.al i k j n e1 e3 a bs A.s ho
structure Sim (K : PySem.W.Frag) (G : Gm) (Z : Hp) (ρ : Rho) (σ : St) (H : Hp) : Prop where
  zz : Same G.Z0 Z
  zh : Same Z H
  fr : ∀ a o, G.H0 a = some o → ¬ G.lent a → H a = some o
  nw : ∀ a o, Z a = some o → G.Z0 a = some o ∨ G.H0 a = none
  pu : ∀ (i : Nat) d, ρ[i]? = some (Sl.pu d) → ∃ v, σ[i]? = some (some v) ∧ Rp K Z v d
  ow : ∀ (i : Nat) p c, ρ[i]? = some (Sl.ow p c) → ∃ a o, σ[i]? = some (some (V.ref a)) ∧ H a = some o ∧ CtR K Z o c ∧ Z a = none ∧ (p = true → G.lent a) ∧ (p = false → G.H0 a = none)
  ne : ∀ (i j : Nat) p q c d, i ≠ j → ρ[i]? = some (Sl.ow p c) → ρ[j]? = some (Sl.ow q d) → σ[i]? ≠ σ[j]?
  pin : ∀ (i : Nat) a, (i, a) ∈ G.pins → σ[i]? = some (some (V.ref a)) ∧ ∃ c, ρ[i]? = some (Sl.ow true c)
  len : ρ.length = σ.length
  lx : LX K G Z ρ σ H

/-- the heap grows: new things, some of them still data -/
structure Grow (Z H Z' H' : Hp) : Prop where
  z : Same Z Z'
  zh : Same Z' H'
  h : Same H H'
  n : ∀ a o, Z' a = some o → Z a = some o ∨ H a = none
theorem Grow.refl {Z H : Hp} (h : Same Z H) : Grow Z H Z H := ⟨.refl _, h, .refl _, fun _ _ e => .inl e⟩
theorem same_upd {H : Hp} {p : Addr} (h : H p = none) (o : HO) : Same H (upd H p o) := fun b u q => by rw [upd_ne (ne_of_none q h)]; exact q
theorem none_of_same {Z H : Hp} (e : Same Z H) {p : Addr} (h : H p = none) : Z p = none := e.free h
/-- a new thing that stands still -/
theorem Grow.still {Z H : Hp} (e : Same Z H) {p : Addr} (h : H p = none) (o : HO) : Grow Z H (upd Z p o) (upd H p o) where
  z := same_upd (none_of_same e h) o
  zh := fun b u q => by
    by_cases hb : b = p
    · subst hb; rw [upd_same] at q ⊢; exact q
    · rw [upd_ne hb] at q ⊢; exact e _ _ q
  h := same_upd h o
  n := fun b u q => by
    by_cases hb : b = p
    · subst hb; exact .inr h
    · rw [upd_ne hb] at q; exact .inl q
/-- a new thing that does not -/
theorem Grow.loose {Z H : Hp} (e : Same Z H) {p : Addr} (h : H p = none) (o : HO) : Grow Z H Z (upd H p o) :=
  ⟨.refl _, fun b u q => by rw [upd_ne (ne_of_none (e _ _ q) h)]; exact e _ _ q, same_upd h o, fun _ _ q => .inl q⟩
theorem Grow.trans {Z H Z1 H1 Z2 H2 : Hp} (a : Grow Z H Z1 H1) (b : Grow Z1 H1 Z2 H2) : Grow Z H Z2 H2 :=
  ⟨a.z.trans b.z, b.zh, a.h.trans b.h, fun x o e => (b.n x o e).elim (fun q => a.n x o q) fun q => .inr (a.h.free q)⟩

section
variable {K : PySem.W.Frag} {G : Gm} {Z Z' : Hp} {ρ : Rho} {σ : St} {H H' : Hp}
theorem Sim.lentIn (S : Sim K G Z ρ σ H) {a : Addr} (h : G.lent a) : ∃ (i : Nat) (c : Ct) (o : HO), σ[i]? = some (some (V.ref a)) ∧ ρ[i]? = some (Sl.ow true c) ∧ H a = some o ∧ CtR K Z o c ∧ Z a = none := by
  obtain ⟨i, hi⟩ := h
  obtain ⟨e, c, hc⟩ := S.pin i a hi
  obtain ⟨b, o, e', ho, r, z, _, _⟩ := S.ow i true c hc
  rw [e] at e'
  cases e'
  exact ⟨i, c, o, e, hc, ho, r, z⟩
theorem Sim.freshIn (S : Sim K G Z ρ σ H) {a : Addr} (h : H a = none) : G.H0 a = none := by
  cases e : G.H0 a with
  | none => rfl
  | some o =>
    by_cases l : G.lent a
    · obtain ⟨_, _, _, _, _, q, _⟩ := S.lentIn l
      rw [h] at q; cases q
    · have q := S.fr a o e l
      rw [h] at q; cases q
theorem Sim.grow (S : Sim K G Z ρ σ H) (g : Grow Z H Z' H') : Sim K G Z' ρ σ H' where
  zz := S.zz.trans g.z
  zh := g.zh
  fr := fun a o e l => g.h _ _ (S.fr a o e l)
  nw := fun a o e => (g.n a o e).elim (fun q => S.nw a o q) fun q => .inr (S.freshIn q)
  pu := fun i d e => let ⟨v, q, r⟩ := S.pu i d e; ⟨v, q, r.mono g.z⟩
  ow := fun i p c e => by
    obtain ⟨a, o, q, ho, r, z, l⟩ := S.ow i p c e
    refine ⟨a, o, q, g.h _ _ ho, r.mono g.z, ?_, l⟩
    cases q' : Z' a with
    | none => rfl
    | some u =>
      rcases g.n a u q' with w | w
      · rw [z] at w; cases w
      · rw [ho] at w; cases w
  ne := S.ne
  pin := S.pin
  len := S.len
  lx := S.lx.frame (fun _ _ e => ⟨e, rfl⟩) (fun _ _ _ e => ⟨e, rfl⟩) g.z fun b o _ z gn w ho => ⟨g.h _ _ ho, (by
    cases q' : Z' b with
    | none => rfl
    | some u =>
      rcases g.n b u q' with e | e
      · rw [z] at e; cases e
      · rw [ho] at e; cases e), gn, w⟩
/-- an address of a list of own lists holds something -/
theorem LX.at {K : PySem.W.Frag} {G : Gm} {Z : Hp} {ρ : Rho} {σ : St} {H : Hp} (L : LX K G Z ρ σ H) {b : Addr} (h : InF ρ σ H b) : ∃ i n v fs, ρ[i]? = some (Sl.ll n) ∧ LLat K G Z ρ σ H i v fs n ∧ b ∈ fs := by
  obtain ⟨i, n, v, fs, e1, e2, e3, hb⟩ := h
  obtain ⟨v', fs', A⟩ := L.ll i n e1
  have hv : v' = v := by
    have := A.s.symm.trans e2
    cases this; rfl
  subst hv
  have hf := e3.det A.r
  subst hf
  exact ⟨i, n, v', fs, e1, A, hb⟩
theorem LX.live {K : PySem.W.Frag} {G : Gm} {Z : Hp} {ρ : Rho} {σ : St} {H : Hp} (L : LX K G Z ρ σ H) {b : Addr} (h : InF ρ σ H b) : (∃ o, H b = some o) ∧ Z b = none ∧ G.H0 b = none ∧ ∀ (j : Nat) p c, ρ[j]? = some (Sl.ow p c) → σ[j]? ≠ some (some (V.ref b)) := by
  obtain ⟨i, n, v, fs, e1, A, hb⟩ := L.at h
  exact ⟨A.r.live hb, A.z b hb, A.g b hb, A.w b hb⟩
theorem LX.back {K : PySem.W.Frag} {G : Gm} {Z : Hp} {ρ : Rho} {σ : St} {H H' : Hp} (L : LX K G Z ρ σ H) (hk : ∀ b o, InF ρ σ H b → H b = some o → H' b = some o) {b : Addr} (h : InF ρ σ H' b) : InF ρ σ H b := by
  obtain ⟨i, n, v, fs, e1, e2, e3, hb⟩ := h
  obtain ⟨v', fs', A⟩ := L.ll i n e1
  have hv : v' = v := by
    have := A.s.symm.trans e2
    cases this; rfl
  subst hv
  have r : NR (fun _ _ => True) H' v' n fs' := A.r.mono (fun _ _ _ => trivial) fun b hb o ho => hk b o (A.inF e1 hb) ho
  have hf := e3.det r
  subst hf
  exact A.inF e1 hb
/-- a list of lists -/
structure LLa (K : PySem.W.Frag) (G : Gm) (Z : Hp) (ρ : Rho) (σ : St) (H : Hp) (i : Nat) (a : Addr) (bs : List Addr) (xss : List (List D)) : Prop where
  s : σ[i]? = some (some (V.ref a))
  h : H a = some (.lst (bs.map V.ref))
  p : Paired (fun b xs => ∃ vs, H b = some (.lst vs) ∧ RpAll K Z vs xs) bs xss
  nd : (a :: bs).Nodup
  z : ∀ b ∈ a :: bs, Z b = none
  g : ∀ b ∈ a :: bs, G.H0 b = none
  w : ∀ b ∈ a :: bs, ∀ (j : Nat) p c, ρ[j]? = some (Sl.ow p c) → σ[j]? ≠ some (some (V.ref b))
theorem LLa.at {K : PySem.W.Frag} {G : Gm} {Z : Hp} {ρ : Rho} {σ : St} {H : Hp} {i : Nat} {a : Addr} {bs : List Addr} {xss : List (List D)} (A : LLa K G Z ρ σ H i a bs xss) : LLat K G Z ρ σ H i (.ref a) (a :: bs) (.li xss) := ⟨A.s, .li A.h A.p, A.nd, A.z, A.g, A.w⟩
theorem LX.lla {K : PySem.W.Frag} {G : Gm} {Z : Hp} {ρ : Rho} {σ : St} {H : Hp} (L : LX K G Z ρ σ H) {i : Nat} {xss : List (List D)} (e : ρ[i]? = some (Sl.ll (.li xss))) : ∃ a bs, LLa K G Z ρ σ H i a bs xss := by
  obtain ⟨v, fs, A⟩ := L.ll i _ e
  obtain ⟨s, r, nd, z, g, w⟩ := A
  cases r with
  | li h1 h2 => exact ⟨_, _, s, h1, h2, nd, z, g, w⟩
/-- a new address: no slot has it -/
def NewA (ρ : Rho) (σ : St) (H : Hp) (a : Addr) : Prop := (∀ (i : Nat) p c, ρ[i]? = some (Sl.ow p c) → σ[i]? ≠ some (some (V.ref a))) ∧ ¬ InF ρ σ H a
theorem Sim.newA {K : PySem.W.Frag} {G : Gm} {Z : Hp} {ρ : Rho} {σ : St} {H : Hp} (S : Sim K G Z ρ σ H) {a : Addr} (h : H a = none) : NewA ρ σ H a := by
  refine ⟨fun i p c e q => ?_, fun q => ?_⟩
  · obtain ⟨a', o', q', ho', _⟩ := S.ow i p c e
    rw [q] at q'
    cases q'
    rw [h] at ho'
    cases ho'
  · obtain ⟨o, ho⟩ := (S.lx.live q).1
    rw [h] at ho
    cases ho
theorem Sim.fresh (S : Sim K G Z ρ σ H) {p : Addr} (h : H p = none) : Z p = none := none_of_same S.zh h
end

/-! ### results -/
structure Xn where
  cls : Str
  told : List (Str × D)
inductive M (α : Type) where
  | st
  | ok (a : α) (ρ : Rho)
  | ex (x : Xn) (ρ : Rho)
def M.bind {α β : Type} (m : M α) (f : α → Rho → M β) : M β := match m with
  | .st => .st
  | .ok a ρ => f a ρ
  | .ex x ρ => .ex x ρ
@[simp] theorem M.bind_ok {α β : Type} (a : α) (ρ : Rho) (f : α → Rho → M β) : (M.ok a ρ).bind f = f a ρ := rfl
@[simp] theorem M.bind_st {α β : Type} (f : α → Rho → M β) : (M.st : M α).bind f = .st := rfl
@[simp] theorem M.bind_ex {α β : Type} (x : Xn) (ρ : Rho) (f : α → Rho → M β) : (M.ex x ρ : M α).bind f = .ex x ρ := rfl
abbrev O (α : Type) := Rho → M α
inductive Va where
  | pu (d : D)
  | rf (i : Nat)
inductive Rs where
  | pu (d : D)
  | nw (c : Ct)
/-- what is wanted of an exception -/
abbrev Wish := Xn → Rho → Hp → St → Hp → Prop
abbrev Rel (α β : Type) := Hp → Rho → St → Hp → β → α → Prop

section
variable (K : PySem.W.Frag) (G : Gm) (B : Wish)
def Post {α β : Type} (R : Rel α β) (σ : St) (Z : Hp) (m : M α) (Q : β → Hp → Prop) : Prop := match m with
  | .st => False
  | .ok a ρ' => ∀ v Z' H', Same Z Z' → Sim K G Z' ρ' σ H' → R Z' ρ' σ H' v a → Q v H'
  | .ex x ρ' => ∀ Z' H', Same Z Z' → Sim K G Z' ρ' σ H' → B x ρ' Z' σ H'
def Run {α β : Type} (R : Rel α β) (o : O α) : St → Hp → (β → Hp → Prop) → Prop := fun σ H Q => ∃ Z ρ, Sim K G Z ρ σ H ∧ Post K G B R σ Z (o ρ) Q
def VaR : Rel Va V := fun Z ρ σ H v a => match a with
  | .pu d => Rp K Z v d
  | .rf i => σ[i]? = some (some v)
def RsR : Rel Rs V := fun Z ρ σ H v r => match r with
  | .pu d => Rp K Z v d
  | .nw c => ∃ a o, v = V.ref a ∧ H a = some o ∧ CtR K Z o c ∧ Z a = none ∧ G.H0 a = none ∧ NewA ρ σ H a
def BoR : Rel Bool Bool := fun _ _ _ _ b a => b = a
def VasR : Rel (List Va) (List V) := fun Z ρ σ H vs as => Paired (VaR K Z ρ σ H) vs as
end
theorem Post.bind {K : PySem.W.Frag} {G : Gm} {B : Wish} {α α' β β' : Type} {R : Rel α β} {R' : Rel α' β'} {σ : St} {Z : Hp} {m : M α} {f : α → Rho → M α'} {Q : β' → Hp → Prop} {C : β → Hp → Prop} (h : Post K G B R' σ Z (m.bind f) Q)
    (k : ∀ x a ρ1 Z1 H1, Same Z Z1 → Sim K G Z1 ρ1 σ H1 → R Z1 ρ1 σ H1 x a → Post K G B R' σ Z1 (f a ρ1) Q → C x H1) : Post K G B R σ Z m C := by
  cases m with
  | st => exact h
  | ex x ρ => exact h
  | ok a ρ1 =>
    intro v Z' H' e S r
    refine k v a ρ1 Z' H' e S r ?_
    have h' : Post K G B R' σ Z (f a ρ1) Q := h
    cases q : f a ρ1 with
    | st => rw [q] at h'; exact h'
    | ok b ρ2 => rw [q] at h'; exact fun v2 Z2 H2 e2 => h' v2 Z2 H2 (e.trans e2)
    | ex b ρ2 => rw [q] at h'; exact fun Z2 H2 e2 => h' Z2 H2 (e.trans e2)

/-! ### judgements -/
section
variable (X : Cx) (G : Gm) (B : Wish)
def ED (e : Expr) (o : O Va) : Prop := PE X e (Run X.K G B (VaR X.K) o)
def RD (e : Expr) (o : O Rs) : Prop := PE X e (Run X.K G B (RsR X.K G) o)
def TD (e : Expr) (o : O Bool) : Prop := PT X e (Run X.K G B BoR o)
def AD (es : List Expr) (o : O (List Va)) : Prop := PA X es (Run X.K G B (VasR X.K) o)
end
theorem pe_imp {X : Cx} {e : Expr} {t t' : TE} (h : PE X e t) (k : ∀ σ H Q, t' σ H Q → t σ H Q) : PE X e t' := ⟨fun pins s σ H Q I w => h.run pins s σ H Q I (k _ _ _ w)⟩
theorem pt_imp {X : Cx} {e : Expr} {t t' : TT} (h : PT X e t) (k : ∀ σ H Q, t' σ H Q → t σ H Q) : PT X e t' := ⟨fun pins s σ H Q I w => h.run pins s σ H Q I (k _ _ _ w)⟩
theorem pa_imp {X : Cx} {e : List Expr} {t t' : TA} (h : PA X e t) (k : ∀ σ H Q, t' σ H Q → t σ H Q) : PA X e t' := ⟨fun pos pins s σ H Q I w => h.run pos pins s σ H Q I (k _ _ _ w)⟩
theorem ps_imp {X : Cx} {e : Stmt} {t t' : TS} (h : PS X e t) (k : ∀ D σ H, t' D σ H → t D σ H) : PS X e t' := ⟨fun pins s σ H D I w => h.run pins s σ H D I (k _ _ _ w)⟩
theorem pss_imp {X : Cx} {e : List Stmt} {t t' : TS} (h : PSs X e t) (k : ∀ D σ H, t' D σ H → t D σ H) : PSs X e t' := ⟨fun pins s σ H D I w => h.run pins s σ H D I (k _ _ _ w)⟩
theorem pe_alt {X : Cx} {e : Expr} {t t' : TE} (h : PE X e t) (h' : PE X e t') : PE X e (fun σ H Q => t σ H Q ∨ t' σ H Q) := ⟨fun pins s σ H Q I w => w.elim (h.run pins s σ H Q I) (h'.run pins s σ H Q I)⟩
end Ow
namespace Ow
open PySem L2
theorem paired_both {α β : Type} {P : α → β → Prop} : ∀ {l : List α} {m : List β} {j : Nat} {a : α} {b : β}, Paired P l m → l[j]? = some a → m[j]? = some b → P a b
  | _, _, _, _, _, .nil, e, _ => by simp at e
  | _, _, 0, _, _, .cons h _, e, f => by simp at e f; subst e; subst f; exact h
  | _, _, j + 1, _, _, .cons _ r, e, f => paired_both (j := j) r (by simpa using e) (by simpa using f)
/-! ### what can be read now -/
def Rdb (K : PySem.W.Frag) (Z H : Hp) (v : V) (d : D) : Prop := Rp K Z v d ∨ ∃ a vs ds, v = .ref a ∧ d = .list ds ∧ H a = some (.lst vs) ∧ RpAll K Z vs ds
def rdV (ρ : Rho) (a : Va) : Option D := match a with
  | .pu d => some d
  | .rf i => match ρ[i]? with
    | some (.ow _ (.li ds)) => some (.list ds)
    | some (.al k j) => match ρ[k]? with
      | some (.ll (.li xss)) => (xss[j]?).map PyData.list
      | _ => none
    | _ => none
@[simp] theorem rdV_pu (ρ : Rho) (d : D) : rdV ρ (.pu d) = some d := rfl
section
variable {K : PySem.W.Frag} {G : Gm} {B : Wish} {Z Z' : Hp} {ρ ρ' : Rho} {σ : St} {H H' : Hp} {v : V} {a : Va} {d : D} {i : Int} {x : Str} {b : Bool} {ds : List D}
theorem VaR.mono (h : VaR K Z ρ σ H v a) (e : Same Z Z') : VaR K Z' ρ' σ H' v a := by
  cases a with
  | pu d => exact Rp.mono h e
  | rf i => exact h
theorem Sim.rdb (S : Sim K G Z ρ σ H) (h : VaR K Z ρ' σ H' v a) (e : rdV ρ a = some d) : Rdb K Z H v d := by
  cases a with
  | pu d' => cases e; exact .inl h
  | rf i =>
    unfold rdV at e
    split at e
    · cases ‹Va.rf i = _›
    · rename_i j h1
      cases h1
      split at e
      · rename_i p ds hr
        cases e
        obtain ⟨a, o, q, ho, r, _⟩ := S.ow i p _ hr
        have h' : σ[i]? = some (some v) := h
        rw [q] at h'
        cases h'
        cases o with
        | lst vs => exact .inr ⟨a, vs, ds, rfl, rfl, ho, r⟩
        | _ => exact r.elim
      · rename_i k m hr
        split at e
        · rename_i xss hk
          cases hx : xss[m]? with
          | none => rw [hx] at e; cases e
          | some xs =>
            rw [hx] at e
            cases e
            obtain ⟨a, bs, A⟩ := S.lx.lla hk
            obtain ⟨b, h1, h2⟩ := S.lx.al _ k m _ hr hk a bs A.s A.h
            have h' : σ[i]? = some (some v) := h
            rw [h2] at h'
            cases h'
            obtain ⟨vs, h3, h4⟩ := paired_both A.p h1 hx
            exact .inr ⟨b, vs, xs, rfl, rfl, h3, h4⟩
        · cases e
      · cases e
theorem Rdb.int (h : Rdb K Z H v (.int i)) : v = .int i := by
  rcases h with h | ⟨_, _, _, _, e, _⟩
  · cases h; rfl
  · cases e
theorem Rdb.str (h : Rdb K Z H v (.str x)) : v = .str x := by
  rcases h with h | ⟨_, _, _, _, e, _⟩
  · cases h; rfl
  · cases e
theorem Rdb.bl (h : Rdb K Z H v (.bool b)) : v = .bl b := by
  rcases h with h | ⟨_, _, _, _, e, _⟩
  · cases h; rfl
  · cases e
theorem Rdb.non (h : Rdb K Z H v .none) : v = .non := by
  rcases h with h | ⟨_, _, _, _, e, _⟩
  · cases h; rfl
  · cases e
theorem Rdb.list (h : Rdb K Z H v (.list ds)) (e : Same Z H) : ∃ a vs, v = .ref a ∧ H a = some (.lst vs) ∧ RpAll K Z vs ds := by
  rcases h with h | ⟨a, vs, ds', h1, h2, h3, h4⟩
  · cases h with
    | lst h1 h2 => exact ⟨_, _, rfl, e _ _ h1, h2⟩
  · cases h2; exact ⟨a, vs, h1, h3, h4⟩
theorem Rdb.tup (h : Rdb K Z H v (.tuple ds)) (e : Same Z H) : ∃ a vs, v = .ref a ∧ H a = some (.tup vs) ∧ RpAll K Z vs ds ∧ Rp K Z v (.tuple ds) := by
  rcases h with h | ⟨_, _, _, _, e, _⟩
  · cases h with
    | tup h1 h2 => exact ⟨_, _, rfl, e _ _ h1, h2, .tup h1 h2⟩
  · cases e
theorem Rdb.scr (h : Rdb K Z H v (scr ds)) (e : Same Z H) : ∃ a vs, v = .ref a ∧ SqL K H a vs ∧ RpAll K Z vs ds := by
  rcases h with h | ⟨_, _, _, _, e, _⟩
  · cases h with
    | frz h1 h2 => exact ⟨_, _, rfl, sqL_mono e h1, h2⟩
  · cases e
theorem Rdb.kon (h : Rdb K Z H v (kon ds)) (e : Same Z H) : ∃ a vs, v = .ref a ∧ SqT K H a vs ∧ RpAll K Z vs ds := by
  rcases h with h | ⟨_, _, _, _, e, _⟩
  · cases h with
    | kon h1 h2 => exact ⟨_, _, rfl, sqT_mono e h1, h2⟩
  · cases e
/-- data without the script's word -/
theorem Rdb.dp (h : Rdb K Z H v d) (e : Same Z H) (c : d.canLay0 = true) : Dp K H v d := by
  rcases h with h | ⟨a, vs, ds, rfl, rfl, h3, h4⟩
  · exact (h.mono e).dp c
  · exact .lst (SqL.of h3) ((h4.mono e).dp (by simpa [PyData.canLay0] using c))

/-! ### how a rule's answer goes back -/
def ResG (K : PySem.W.Frag) (Z' H H' : Hp) (v : V) (r : Rs) : Prop := match r with
  | .pu d => Rp K Z' v d
  | .nw c => ∃ a o, v = V.ref a ∧ H a = none ∧ Z' a = none ∧ H' a = some o ∧ CtR K Z' o c
theorem Sim.res (S : Sim K G Z ρ σ H) (hs : Same H H') {r : Rs} (h : ResG K Z' H H' v r) : RsR K G Z' ρ σ H' v r := by
  cases r with
  | pu d => exact h
  | nw c =>
    obtain ⟨a, o, e, n, z, ho, cr⟩ := h
    exact ⟨a, o, e, ho, cr, z, S.freshIn n, (S.newA n).1, fun q => (S.newA n).2 (S.lx.back (fun b o _ h => hs _ _ h) q)⟩
theorem Post.fin {r : Rs} {Q : VK} (p : Post K G B (RsR K G) σ Z (.ok r ρ) Q) (S : Sim K G Z ρ σ H) (g : Grow Z H Z' H') (h : ResG K Z' H H' v r) : Q v H' :=
  p v Z' H' g.z (S.grow g) (S.res g.h h)
theorem Post.finP {d : D} {Q : VK} (p : Post K G B (fun Z ρ σ H v d => Rp K Z v d) σ Z (.ok d ρ) Q) (S : Sim K G Z ρ σ H) (g : Grow Z H Z' H') (h : Rp K Z' v d) : Q v H' :=
  p v Z' H' g.z (S.grow g) h
/-- a new list that nobody changes any more -/
theorem Sim.freezeNew (S : Sim K G Z ρ σ H) {p : Addr} {vs : List V} (h : H p = some (.lst vs)) (z : Z p = none) (n : G.H0 p = none) (hn : NewA ρ σ H p) :
    Sim K G (upd Z p (.lst vs)) ρ σ H where
  zz := S.zz.trans (same_upd z _)
  zh := fun b u q => by
    by_cases hb : b = p
    · subst hb; rw [upd_same] at q; cases q; exact h
    · rw [upd_ne hb] at q; exact S.zh _ _ q
  fr := S.fr
  nw := fun b u q => by
    by_cases hb : b = p
    · subst hb; exact .inr n
    · rw [upd_ne hb] at q; exact S.nw _ _ q
  pu := fun i d e => let ⟨v, q, r⟩ := S.pu i d e; ⟨v, q, r.mono (same_upd z _)⟩
  ow := fun i q c e => by
    obtain ⟨a, o, q', ho, r, z', l⟩ := S.ow i q c e
    refine ⟨a, o, q', ho, r.mono (same_upd z _), ?_, l⟩
    rw [upd_ne]
    · exact z'
    · intro e'; subst e'; exact hn.1 i q c e q'
  ne := S.ne
  pin := S.pin
  len := S.len
  lx := S.lx.frame (fun _ _ e => ⟨e, rfl⟩) (fun _ _ _ e => ⟨e, rfl⟩) (same_upd z _) fun b o f z' gn w ho => ⟨ho, (by rw [upd_ne]; exact z'; intro e; subst e; exact hn.2 f), gn, w⟩
end
def PuR (K : PySem.W.Frag) : Rel D V := fun Z ρ σ H v d => Rp K Z v d
def PD (X : Cx) (G : Gm) (B : Wish) (e : Expr) (o : O D) : Prop := PE X e (Run X.K G B (PuR X.K) o)

/-! ### from one kind of answer to another -/
def oPu (o : O D) : O Va := fun ρ => (o ρ).bind fun d ρ1 => .ok (.pu d) ρ1
def oRes (o : O D) : O Rs := fun ρ => (o ρ).bind fun d ρ1 => .ok (.pu d) ρ1
def frz1 (r : Rs) (ρ : Rho) : M D := match r with
  | .pu d => .ok d ρ
  | .nw (.li ds) => .ok (.list ds) ρ
  | _ => .st
def oFrz (o : O Rs) : O D := fun ρ => (o ρ).bind frz1
def keep1 (a : Va) (ρ : Rho) : M D := match a with
  | .pu d => .ok d ρ
  | .rf i => match ρ[i]? with
    | some (.ow false (.li ds)) => .ok (.list ds) (ρ.set i (.pu (.list ds)))
    | _ => .st
def oKeep (o : O Va) : O D := fun ρ => (o ρ).bind keep1
@[simp] theorem frz1_pu (d : D) (ρ : Rho) : frz1 (.pu d) ρ = .ok d ρ := rfl
@[simp] theorem frz1_li (ds : List D) (ρ : Rho) : frz1 (.nw (.li ds)) ρ = .ok (.list ds) ρ := rfl
@[simp] theorem keep1_pu (d : D) (ρ : Rho) : keep1 (.pu d) ρ = .ok d ρ := rfl
section
variable {X : Cx} {G : Gm} {B : Wish} {e : Expr}
theorem run_imp {K : PySem.W.Frag} {α α' β β' : Type} {R : Rel α β} {R' : Rel α' β'} {o : O α} {f : α → Rho → M α'} {σ : St} {H : Hp} {Q : β' → Hp → Prop} {C : β → Hp → Prop} (h : Run K G B R' (fun ρ => (o ρ).bind f) σ H Q)
    (k : ∀ x a ρ1 Z1 H1, Sim K G Z1 ρ1 σ H1 → R Z1 ρ1 σ H1 x a → Post K G B R' σ Z1 (f a ρ1) Q → C x H1) : Run K G B R o σ H C := by
  obtain ⟨Z, ρ, S, p⟩ := h
  exact ⟨Z, ρ, S, Post.bind p fun x a ρ1 Z1 H1 _ S1 r p1 => k x a ρ1 Z1 H1 S1 r p1⟩
theorem ed_pd {o : O D} (h : PD X G B e o) : ED X G B e (oPu o) := pe_imp h fun σ H Q w => run_imp w fun x a ρ1 Z1 H1 S1 r p1 => p1 x Z1 H1 (.refl _) S1 r
theorem rd_pd {o : O D} (h : PD X G B e o) : RD X G B e (oRes o) := pe_imp h fun σ H Q w => run_imp w fun x a ρ1 Z1 H1 S1 r p1 => p1 x Z1 H1 (.refl _) S1 r
theorem pd_rd {o : O Rs} (h : RD X G B e o) : PD X G B e (oFrz o) := pe_imp h fun σ H Q w => run_imp w fun x r ρ1 Z1 H1 S1 q p1 => by
  cases r with
  | pu d => exact p1 x Z1 H1 (.refl _) S1 q
  | nw c =>
    cases c with
    | li ds =>
      obtain ⟨a, ho, ev, h1, cr, z, n, hn⟩ := q
      cases ho with
      | lst vs =>
        refine p1 x (upd Z1 a (.lst vs)) H1 (same_upd z _) (S1.freezeNew h1 z n hn) ?_
        subst ev
        exact .lst upd_same (RpAll.mono cr (same_upd z _))
      | _ => exact cr.elim
    | dk kvs => exact p1.elim
    | dt kvs => exact p1.elim
theorem Sim.freezeSlot {K : PySem.W.Frag} {Z : Hp} {ρ : Rho} {σ : St} {H : Hp} {i : Nat} {ds : List D} (S : Sim K G Z ρ σ H) (h : ρ[i]? = some (Sl.ow false (.li ds))) :
    ∃ a vs, σ[i]? = some (some (V.ref a)) ∧ H a = some (.lst vs) ∧ RpAll K Z vs ds ∧ Z a = none ∧ Sim K G (upd Z a (.lst vs)) (ρ.set i (.pu (.list ds))) σ H := by
  obtain ⟨a, o, q, ho, r, z, _, n⟩ := S.ow i _ _ h
  cases o with
  | lst vs =>
    have hi : i < ρ.length := by
      have := List.getElem?_eq_some_iff.mp h
      exact this.1
    have e1 : Same Z (upd Z a (.lst vs)) := same_upd z _
    refine ⟨a, vs, q, ho, r, z, ⟨S.zz.trans e1, fun b u q' => ?_, S.fr, fun b u q' => ?_, fun j d e => ?_, fun j p c e => ?_, fun j k p q' c d hjk e1 e2 => ?_, fun j b hj => ?_, by rw [List.length_set]; exact S.len, ?_⟩⟩
    · by_cases hb : b = a
      · subst hb; rw [upd_same] at q'; cases q'; exact ho
      · rw [upd_ne hb] at q'; exact S.zh _ _ q'
    · by_cases hb : b = a
      · subst hb; exact .inr (n rfl)
      · rw [upd_ne hb] at q'; exact S.nw _ _ q'
    · by_cases hj : j = i
      · subst hj
        rw [List.getElem?_set_self hi] at e
        cases e
        exact ⟨_, q, .lst upd_same (RpAll.mono r e1)⟩
      · rw [List.getElem?_set_ne (Ne.symm hj)] at e
        obtain ⟨v, q1, r1⟩ := S.pu j d e
        exact ⟨v, q1, r1.mono e1⟩
    · by_cases hj : j = i
      · subst hj
        rw [List.getElem?_set_self hi] at e
        cases e
      · rw [List.getElem?_set_ne (Ne.symm hj)] at e
        obtain ⟨a', o', q1, h1, r1, z1, l1⟩ := S.ow j p c e
        refine ⟨a', o', q1, h1, r1.mono e1, ?_, l1⟩
        rw [upd_ne]
        · exact z1
        · intro e'
          subst e'
          exact S.ne j i _ _ _ _ hj e h (q1.trans q.symm)
    · have hj : j ≠ i := fun e => by subst e; rw [List.getElem?_set_self hi] at e1; cases e1
      have hk : k ≠ i := fun e => by subst e; rw [List.getElem?_set_self hi] at e2; cases e2
      rw [List.getElem?_set_ne (Ne.symm hj)] at e1
      rw [List.getElem?_set_ne (Ne.symm hk)] at e2
      exact S.ne j k p q' c d hjk e1 e2
    · obtain ⟨q1, c, hc⟩ := S.pin j b hj
      refine ⟨q1, c, ?_⟩
      rw [List.getElem?_set_ne]
      · exact hc
      · intro e; subst e; rw [h] at hc; cases hc
    · refine S.lx.frame (fun j xss e => ?_) (fun j k m e => ?_) e1 fun b o f z' gn w ho' => ⟨ho', (by rw [upd_ne]; exact z'; intro e; subst e; exact w i _ _ h q), gn, fun j p c e => ?_⟩
      · by_cases hj : j = i
        · subst hj; rw [List.getElem?_set_self hi] at e; cases e
        · rw [List.getElem?_set_ne (Ne.symm hj)] at e; exact ⟨e, rfl⟩
      · by_cases hj : j = i
        · subst hj; rw [List.getElem?_set_self hi] at e; cases e
        · rw [List.getElem?_set_ne (Ne.symm hj)] at e; exact ⟨e, rfl⟩
      · by_cases hj : j = i
        · subst hj; rw [List.getElem?_set_self hi] at e; cases e
        · rw [List.getElem?_set_ne (Ne.symm hj)] at e; exact w j p c e
  | _ => exact r.elim
theorem pd_ed {o : O Va} (h : ED X G B e o) : PD X G B e (oKeep o) := pe_imp h fun σ H Q w => run_imp w fun x a ρ1 Z1 H1 S1 q p1 => by
  cases a with
  | pu d => exact p1 x Z1 H1 (.refl _) S1 q
  | rf i =>
    have p2 : Post X.K G B (PuR X.K) σ Z1 (keep1 (.rf i) ρ1) Q := p1
    unfold keep1 at p2
    split at p2
    · cases ‹Va.rf i = _›
    · rename_i j hj
      cases hj
      split at p2
      · rename_i ds hr
        obtain ⟨a, vs, q1, h1, r1, z1, S2⟩ := S1.freezeSlot hr
        have q' : σ[i]? = some (some x) := q
        rw [q1] at q'
        cases q'
        exact p2 _ _ H1 (same_upd z1 _) S2 (.lst upd_same (RpAll.mono r1 (same_upd z1 _)))
      · exact p2.elim
end
/-! ### names, constants -/
def oVar (i : Nat) : O Va := fun ρ => match ρ[i]? with
  | some (.pu d) => .ok (.pu d) ρ
  | some (.ow _ _) => .ok (.rf i) ρ
  | some (.al k _) => match ρ[k]? with
    | some (.ll (.li _)) => .ok (.rf i) ρ
    | _ => .st
  | _ => .st
def oC (d : D) : O D := fun ρ => .ok d ρ
section
variable {X : Cx} {G : Gm} {B : Wish} {e : Expr} {pos : Pos} {j : Nat}
theorem ed_var (i : Nat) {x : Str} (hN : X.N[i]? = some x := by rfl) (hv : Vis X.env.scope x := by first | exact Or.inl rfl | exact Or.inr (Or.inl rfl) | exact Or.inr (Or.inr rfl)) (hd : (x == ("__debug__" : Str)) = false := by decide)
    (hcd : (x == ("__classdict__" : Str)) = false := by decide) : ED X G B (.Name x pos) (oVar i) := by
  refine pe_imp (pe_var (i := i) hN hv hd hcd) ?_
  rintro σ H Q ⟨Z, ρ, S, p⟩
  unfold oVar at p
  split at p
  · rename_i d h
    obtain ⟨v, q, r⟩ := S.pu i d h
    exact ⟨v, q, p v Z H (.refl _) S r⟩
  · rename_i b c h
    obtain ⟨a, o, q, _⟩ := S.ow i b c h
    exact ⟨_, q, p _ Z H (.refl _) S q⟩
  · rename_i k m hr
    split at p
    · rename_i xss hk
      obtain ⟨a, bs, A⟩ := S.lx.lla hk
      obtain ⟨b, _, h2⟩ := S.lx.al _ k m _ hr hk a bs A.s A.h
      exact ⟨_, h2, p _ Z H (.refl _) S h2⟩
    · exact p.elim
  · exact p.elim
theorem pd_const {v : V} {d : D} (h : PE X e (tC v)) (r : ∀ Z, Rp X.K Z v d) : PD X G B e (oC d) := pe_imp h fun σ H Q ⟨Z, ρ, S, p⟩ => p v Z H (.refl _) S (r Z)
theorem pd_int {i : Int} {k} : PD X G B (.Constant (.int i) k pos) (oC (.int i)) := pd_const pe_int fun _ => .int i
theorem pd_bool {i : Bool} {k} : PD X G B (.Constant (.bool i) k pos) (oC (.bool i)) := pd_const pe_bl fun _ => .bl i
theorem pd_none {k} : PD X G B (.Constant .none k pos) (oC .none) := pd_const pe_non fun _ => .non
theorem pd_str {x : Str} {k} : PD X G B (.Constant (.str x) k pos) (oC (.str x)) := pd_const pe_str fun _ => .str x
end
/-! ### operators -/
/-- a rule of two values, by data -/
def BinS (K : PySem.W.Frag) (r : R2) (f : D → D → Option Rs) : Prop := ∀ (x y : V) (dx dy : D) (R : Rs) (Z H : Hp) (Q : VK), Same Z H → Rdb K Z H x dx → Rdb K Z H y dy → f dx dy = some R →
  (∀ v Z' H', Grow Z H Z' H' → ResG K Z' H H' v R → Q v H') → r x y H Q
def bin1 (f : D → D → Option Rs) (a b : Va) (ρ : Rho) : M Rs := match rdV ρ a, rdV ρ b with
  | some dx, some dy => match f dx dy with
    | some r => .ok r ρ
    | none => .st
  | _, _ => .st
@[simp] theorem bin1_pu (f : D → D → Option Rs) (a b : D) (ρ : Rho) : bin1 f (.pu a) (.pu b) ρ = match f a b with | some r => .ok r ρ | none => .st := rfl
def oBin (f : D → D → Option Rs) (oa ob : O Va) : O Rs := fun ρ => (oa ρ).bind fun a ρ1 => (ob ρ1).bind fun b ρ2 => bin1 f a b ρ2
section
variable {X : Cx} {G : Gm} {B : Wish} {a b : Expr} {pos : Pos} {oa ob : O Va}
theorem run_bin {K : PySem.W.Frag} {r : R2} {f : D → D → Option Rs} (hf : BinS K r f) {σ : St} {H : Hp} {Q : VK} (w : Run K G B (RsR K G) (oBin f oa ob) σ H Q) : tOp r (Run K G B (VaR K) oa) (Run K G B (VaR K) ob) σ H Q := by
  obtain ⟨Z, ρ, S, p⟩ := w
  refine ⟨Z, ρ, S, Post.bind p fun x a ρ1 Z1 H1 e1 S1 r1 p1 => ⟨Z1, ρ1, S1, Post.bind p1 fun y b ρ2 Z2 H2 e2 S2 r2 p2 => ?_⟩⟩
  unfold bin1 at p2
  split at p2
  · rename_i dx dy hx hy
    split at p2
    · rename_i R hR
      exact hf x y dx dy R Z2 H2 Q S2.zh (S2.rdb (r1.mono (ρ' := ρ2) (H' := H2) e2) hx) (S2.rdb r2 hy) hR fun v Z' H' g h => p2.fin S2 g h
    · exact p2.elim
  · exact p2.elim
theorem rd_bin {op : Operator} {r : R2} {f : D → D → Option Rs} (ho : OpR X (binaryOp op) r) (hf : BinS X.K r f) (ha : ED X G B a oa) (hb : ED X G B b ob) : RD X G B (.BinOp a op b pos) (oBin f oa ob) :=
  pe_imp (pe_op ho ha hb) fun _ _ _ w => run_bin hf w
theorem rd_cmp {op : CmpOp} {r : R2} {f : D → D → Option Rs} (ho : OpR X (compareOp op) r) (hf : BinS X.K r f) (hm : behindInMarks op b = false) (ha : ED X G B a oa) (hb : ED X G B b ob) : RD X G B (.Compare a [op] [b] pos) (oBin f oa ob) :=
  pe_imp (pe_cmpR ho ha hb hm) fun _ _ _ w => run_bin hf w
end
end Ow
namespace Ow
open PySem L2
/-- products, quotients: what the model's rules ask of the sizes -/
def mulOk (i j : Int) : Bool := decide (i.natAbs < 18446744073709551616 ∨ j.natAbs < 18446744073709551616)
def divOk (i j : Int) : Bool := decide (0 < j ∧ j.natAbs.log2 < 9000)
theorem mulOk_c {i j : Int} (h : mulOk i j = true) : CMul i j := by
  unfold mulOk at h
  have q := of_decide_eq_true h
  unfold CMul
  omega
theorem divOk_c {i j : Int} (h : divOk i j = true) : CDivW i j := by
  unfold divOk at h
  have q := of_decide_eq_true h
  exact q
/-- + -/
def fAdd : D → D → Option Rs
  | .int i, .int j => some (.pu (.int (i + j)))
  | .str i, .str j => if i.length + j.length ≤ 16000000 then some (.pu (.str (i ++ j))) else none
  | .list xs, .list ys => if xs.length + ys.length ≤ 16000000 then some (.nw (.li (xs ++ ys))) else none
  | .tuple xs, .tuple ys => if xs.length + ys.length ≤ 16000000 then some (.pu (.tuple (xs ++ ys))) else none
  | _, _ => none
def fInt2 (g : Int → Int → Int) : D → D → Option Rs
  | .int i, .int j => some (.pu (.int (g i j)))
  | _, _ => none
def fSub := fInt2 fun i j => i - j
def fAnd := fInt2 Builtin.bitAnd
def fOr := fInt2 Builtin.bitOr
def fXor := fInt2 Builtin.bitXor
def fMul : D → D → Option Rs
  | .int i, .int j => if mulOk i j then some (.pu (.int (i * j))) else none
  | .list xs, .int k => if 0 ≤ k ∧ xs.length * k.toNat ≤ 16000000 ∧ k.natAbs < 1000000 then some (.nw (.li (List.replicate k.toNat xs).flatten)) else none
  | _, _ => none
def fDiv : D → D → Option Rs
  | .int i, .int j => if divOk i j then some (.pu (.int (i / j))) else none
  | _, _ => none
def fMod : D → D → Option Rs
  | .int i, .int j => if 0 < j then some (.pu (.int (i % j))) else none
  | _, _ => none
def fPow : D → D → Option Rs
  | .int i, .int j => if 0 ≤ j ∧ j.natAbs ≤ 1000000 ∧ i.natAbs < 2 ^ 64 then some (.pu (.int (i ^ j.toNat))) else none
  | _, _ => none
def fShl : D → D → Option Rs
  | .int i, .int j => if 0 ≤ j ∧ j.natAbs ≤ 1000000 ∧ i.natAbs < 2 ^ 64 then some (.pu (.int (i * 2 ^ j.toNat))) else none
  | _, _ => none
def fShr : D → D → Option Rs
  | .int i, .int j => if 0 ≤ j then some (.pu (.int (i / 2 ^ j.toNat))) else none
  | _, _ => none
/-- comparisons -/
def fEq (a b : D) : Option Rs := if SeqAt.shaped a = true ∧ SeqAt.shaped b = true then some (.pu (.bool (PyData.eqv a b))) else none
def fNe (a b : D) : Option Rs := if SeqAt.shaped a = true ∧ SeqAt.shaped b = true then some (.pu (.bool (!PyData.eqv a b))) else none
def fCmp (g : Int → Int → Bool) : D → D → Option Rs
  | .int i, .int j => some (.pu (.bool (g i j)))
  | _, _ => none
def fLt := fCmp fun i j => decide (i < j)
def fLe := fCmp fun i j => decide (i ≤ j)
def fGt := fCmp fun i j => decide (j < i)
def fGe := fCmp fun i j => decide (j ≤ i)
def fIsN (neg : Bool) : D → D → Option Rs
  | .none, .none => some (.pu (.bool (!neg)))
  | .bool _, .none | .int _, .none | .str _, .none | .list _, .none | .tuple _, .none => some (.pu (.bool neg))
  | _, _ => none
def flatD : D → Bool
  | .none | .bool _ | .int _ | .str _ => true
  | _ => false
/-- in: flat things in lists and tuples; a sign, a text in a text -/
def inD (x : D) (ys : List D) : Bool := ys.any fun y => PyData.eqv y x
def inT (x y : Str) : Bool := if x.cps.size = 1 then decide (x.cps.getD 0 0 ∈ y.cps.toList) else !(Builtin.Str.occurrences y x 0 y.length 1).isEmpty
def fIn (neg : Bool) : D → D → Option Rs
  | x, .list ys => if flatD x = true ∧ ys.all flatD = true then some (.pu (.bool (if neg then !inD x ys else inD x ys))) else none
  | x, .tuple ys => if flatD x = true ∧ ys.all flatD = true then some (.pu (.bool (if neg then !inD x ys else inD x ys))) else none
  | x, .dict [(.bool true, .tuple ys)] => if flatD x = true ∧ ys.all flatD = true then some (.pu (.bool (if neg then !inD x ys else inD x ys))) else none
  | .str x, .str y => some (.pu (.bool (if neg then !inT x y else inT x y)))
  | _, _ => none
section
variable {K : PySem.W.Frag} {X : Cx}
theorem lim_le {n : Nat} (h : n ≤ 16000000) : n ≤ sizeLine := Nat.le_trans h (by decide)
theorem lim_lt {n : Nat} (h : n < 16000000) : n < sizeLine := Nat.lt_of_lt_of_le h (by decide)
theorem binS_int {g : Int → Int → Int} : BinS K (rI0 fun i j => .int (g i j)) (fInt2 g) := by
  intro x y dx dy R Z H Q e rx ry hf k
  unfold fInt2 at hf
  split at hf
  · cases hf
    exact ⟨_, _, rx.int, ry.int, k _ Z H (.refl e) (.int _)⟩
  · cases hf
theorem binS_intC {C : Int → Int → Prop} {g : Int → Int → Int} {f : D → D → Option Rs} (hf : ∀ a b R, f a b = some R → ∃ i j, a = .int i ∧ b = .int j ∧ C i j ∧ R = .pu (.int (g i j))) : BinS K (rI C fun i j => .int (g i j)) f := by
  intro x y dx dy R Z H Q e rx ry h k
  obtain ⟨i, j, rfl, rfl, c, rfl⟩ := hf _ _ _ h
  exact ⟨_, _, rx.int, ry.int, c, k _ Z H (.refl e) (.int _)⟩
theorem binS_cmp {g : Int → Int → Bool} : BinS K (rI0 fun i j => .bl (g i j)) (fCmp g) := by
  intro x y dx dy R Z H Q e rx ry hf k
  unfold fCmp at hf
  split at hf
  · cases hf
    exact ⟨_, _, rx.int, ry.int, k _ Z H (.refl e) (.bl _)⟩
  · cases hf
abbrev rAddAll (K : PySem.W.Frag) : R2 := fun x y H Q => rI0 (fun i j => .int (i + j)) x y H Q ∨ (fun x y H Q => (fun x y H Q => ∃ i j, x = V.str i ∧ y = V.str j ∧ i.length + j.length ≤ sizeLine ∧ Q (V.str (i ++ j)) H) x y H Q ∨ (fun x y H Q => rCat x y H Q ∨ rCatA K x y H Q) x y H Q) x y H Q
theorem op_addAll : OpR X (binaryOp .Add) (rAddAll X.K) := op_add.or (op_add_str.or (op_cat.or op_catA))
theorem new_ne {H : Hp} {p : Addr} {a : Addr} {o : HO} (h : H a = some o) (n : H p = none) : a ≠ p := ne_of_none h n
theorem binS_add : BinS K (rAddAll K) fAdd := by
  intro x y dx dy R Z H Q e rx ry hf k
  unfold fAdd at hf
  split at hf
  · cases hf
    exact .inl ⟨_, _, rx.int, ry.int, k _ Z H (.refl e) (.int _)⟩
  · split at hf
    · cases hf
      exact .inr (.inl ⟨_, _, rx.str, ry.str, lim_le ‹_›, k _ Z H (.refl e) (.str _)⟩)
    · cases hf
  · split at hf
    · cases hf
      rename_i xs ys hz
      obtain ⟨a, vs, rfl, ha, ra⟩ := rx.list e
      obtain ⟨b, ws, rfl, hb, rb⟩ := ry.list e
      refine .inr (.inr (.inl ⟨a, b, vs, ws, rfl, rfl, ha, hb, by rw [ra.length, rb.length]; exact lim_le hz, fun p hp => ?_⟩))
      exact k _ Z _ (.loose e hp _) ⟨p, _, rfl, hp, none_of_same e hp, upd_same, ra.append rb⟩
    · cases hf
  · split at hf
    · cases hf
      rename_i xs ys hz
      obtain ⟨a, vs, rfl, ha, ra, qa⟩ := rx.tup e
      obtain ⟨b, ws, rfl, hb, rb, qb⟩ := ry.tup e
      refine .inr (.inr (.inr ⟨a, b, vs, ws, rfl, rfl, SqT.of ha, SqT.of hb, by rw [ra.length, rb.length]; exact lim_le hz, fun h0 => ?_, fun h0 h1 => ?_, fun h0 h1 p hp => ?_⟩))
      · subst h0; cases ra; exact k _ Z H (.refl e) qb
      · subst h1; cases rb; rw [List.append_nil] at k; exact k _ Z H (.refl e) qa
      · refine k _ _ _ (.still e hp _) ?_
        have e1 : Same Z (upd Z p (.tup (vs ++ ws))) := same_upd (none_of_same e hp) _
        exact .tup upd_same ((ra.append rb).mono e1)
    · cases hf
  · cases hf
abbrev rMulAll : R2 := fun x y H Q => rI CMul (fun i j => .int (i * j)) x y H Q ∨ rRep x y H Q
theorem op_mulAll : OpR X (binaryOp .Mult) rMulAll := op_mul.or op_rep
theorem binS_mul : BinS K rMulAll fMul := by
  intro x y dx dy R Z H Q e rx ry hf k
  unfold fMul at hf
  split at hf
  · split at hf
    · cases hf
      rename_i h
      exact .inl ⟨_, _, rx.int, ry.int, mulOk_c h, k _ Z H (.refl e) (.int _)⟩
    · cases hf
  · split at hf
    · cases hf
      rename_i xs n h
      obtain ⟨a, vs, rfl, ha, ra⟩ := rx.list e
      refine .inr ⟨a, n, vs, rfl, ry.int, ha, by omega, by omega, by rw [ra.length]; exact lim_le h.2.1, fun p hp => ?_⟩
      refine k _ Z _ (.loose e hp _) ⟨p, _, rfl, hp, none_of_same e hp, upd_same, ?_⟩
      show RpAll K Z (List.replicate n.toNat vs).flatten (List.replicate n.toNat xs).flatten
      induction n.toNat with
      | zero => exact .nil
      | succ m ih => rw [List.replicate_succ, List.replicate_succ, List.flatten_cons, List.flatten_cons]; exact ra.append ih
    · cases hf
  · cases hf
theorem binS_div : BinS K (rI CDivW fun i j => .int (i / j)) fDiv := binS_intC fun a b R h => by
  unfold fDiv at h
  split at h
  · split at h
    · cases h; rename_i hd; exact ⟨_, _, rfl, rfl, divOk_c hd, rfl⟩
    · cases h
  · cases h
theorem binS_mod : BinS K (rI (fun _ j => 0 < j) fun i j => .int (i % j)) fMod := binS_intC fun a b R h => by
  unfold fMod at h
  split at h
  · split at h
    · cases h; exact ⟨_, _, rfl, rfl, ‹_›, rfl⟩
    · cases h
  · cases h
theorem binS_pow : BinS K (rI CPow fun i j => .int (i ^ j.toNat)) fPow := binS_intC fun a b R h => by
  unfold fPow at h
  split at h
  · split at h
    · rename_i c; cases h; exact ⟨_, _, rfl, rfl, ⟨c.1, by omega, c.2.2⟩, rfl⟩
    · cases h
  · cases h
theorem binS_shl : BinS K (rI CPow fun i j => .int (i * 2 ^ j.toNat)) fShl := binS_intC fun a b R h => by
  unfold fShl at h
  split at h
  · split at h
    · rename_i c; cases h; exact ⟨_, _, rfl, rfl, ⟨c.1, by omega, c.2.2⟩, rfl⟩
    · cases h
  · cases h
theorem binS_shr : BinS K (rI (fun _ j => 0 ≤ j) fun i j => .int (i / 2 ^ j.toNat)) fShr := binS_intC fun a b R h => by
  unfold fShr at h
  split at h
  · split at h
    · cases h; exact ⟨_, _, rfl, rfl, ‹_›, rfl⟩
    · cases h
  · cases h
theorem shaped_lay {d : D} (h : SeqAt.shaped d = true) : d.canLay0 = true := SeqAt.canLay_of_shaped h
theorem binS_eq : BinS K (rEqD K) fEq := by
  intro x y dx dy R Z H Q e rx ry hf k
  unfold fEq at hf
  split at hf
  · cases hf
    rename_i h
    exact ⟨dx, dy, rx.dp e (shaped_lay h.1), ry.dp e (shaped_lay h.2), h.1, h.2, k _ Z H (.refl e) (.bl _)⟩
  · cases hf
theorem binS_ne : BinS K (rNeD K) fNe := by
  intro x y dx dy R Z H Q e rx ry hf k
  unfold fNe at hf
  split at hf
  · cases hf
    rename_i h
    exact ⟨dx, dy, rx.dp e (shaped_lay h.1), ry.dp e (shaped_lay h.2), h.1, h.2, k _ Z H (.refl e) (.bl _)⟩
  · cases hf
theorem Rdb.nonI {Z H : Hp} {v : V} {d : D} (h : Rdb K Z H v d) (c : ∃ R, fIsN false d .none = some R) : decide (v = .non) = (match d with | .none => true | _ => false) := by
  rcases h with h | ⟨a, vs, ds, rfl, rfl, _⟩
  · cases h <;> first | rfl | (obtain ⟨R, c⟩ := c; cases c) | simp
  · simp
theorem binS_isN : BinS K rIsN (fIsN false) := by
  intro x y dx dy R Z H Q e rx ry hf k
  have c : ∃ R, fIsN false dx .none = some R := by
    unfold fIsN at hf ⊢
    split at hf <;> first | exact ⟨_, rfl⟩ | cases hf
  have n := rx.nonI c
  have hy : y = .non := by
    unfold fIsN at hf
    split at hf <;> first | exact ry.non | cases hf
  refine ⟨hy, ?_⟩
  rw [n]
  unfold fIsN at hf
  split at hf <;> first | (cases hf; exact k _ Z H (.refl e) (.bl _)) | cases hf
theorem binS_notN : BinS K rNotN (fIsN true) := by
  intro x y dx dy R Z H Q e rx ry hf k
  have c : ∃ R, fIsN false dx .none = some R := by
    unfold fIsN at hf ⊢
    split at hf <;> first | exact ⟨_, rfl⟩ | cases hf
  have n := rx.nonI c
  have hy : y = .non := by
    unfold fIsN at hf
    split at hf <;> first | exact ry.non | cases hf
  refine ⟨hy, ?_⟩
  rw [n]
  unfold fIsN at hf
  split at hf <;> first | (cases hf; exact k _ Z H (.refl e) (.bl _)) | cases hf
theorem Rp.flat {Z : Hp} {v : V} {d : D} (h : Rp K Z v d) (c : flatD d = true) : flatV v = true := by
  cases h <;> first | rfl | cases c
theorem Rdb.flat {Z H : Hp} {v : V} {d : D} (h : Rdb K Z H v d) (c : flatD d = true) : flatV v = true ∧ Rp K Z v d := by
  rcases h with h | ⟨_, _, _, _, rfl, _⟩
  · exact ⟨h.flat c, h⟩
  · cases c
theorem RpAll.flat {Z : Hp} : ∀ {vs : List V} {ds : List D}, RpAll K Z vs ds → ds.all flatD = true → vs.all flatV = true
  | _, [], h, _ => by cases h; rfl
  | _, d :: ds, h, c => by
    cases h with
    | cons h1 h2 =>
      simp only [List.all_cons, Bool.and_eq_true] at c ⊢
      exact ⟨h1.flat c.1, h2.flat c.2⟩
theorem eqv_flat {Z : Hp} {v w : V} {d e : D} (h : Rp K Z v d) (g : Rp K Z w e) (c : flatD d = true) (c' : flatD e = true) : eqV v w = PyData.eqv d e := by
  cases h <;> cases g <;> first | (simp [eqV, PyData.eqv]; done) | exact absurd c (by simp [flatD]) | exact absurd c' (by simp [flatD])
theorem inV_inD {Z : Hp} {v : V} {d : D} (h : Rp K Z v d) (c : flatD d = true) : ∀ {vs : List V} {ds : List D}, RpAll K Z vs ds → ds.all flatD = true → inV v vs = inD d ds
  | _, [], g, _ => by cases g; rfl
  | _, e :: ds, g, q => by
    cases g with
    | cons g1 g2 =>
      simp only [List.all_cons, Bool.and_eq_true] at q
      have ih := inV_inD h c g2 q.2
      unfold inV inD at ih ⊢
      rw [List.any_cons, List.any_cons, ih, eqv_flat g1 h q.1 c]
abbrev rInAll (K : PySem.W.Frag) (neg : Bool) : R2 := fun x y H Q => rIn K neg x y H Q ∨ (fun x y H Q => (if neg = true then rNotInS else rInS) x y H Q ∨ (fun x y H Q => ∃ i j, x = V.str i ∧ y = V.str j ∧ Q (V.bl (if neg then !(!(Builtin.Str.occurrences j i 0 j.length 1).isEmpty) else (!(Builtin.Str.occurrences j i 0 j.length 1).isEmpty))) H) x y H Q) x y H Q
theorem op_inAll : OpR X (compareOp .In) (rInAll X.K false) := by
  have h := (op_in_seq (X := X)).or ((op_inS (X := X)).or (op_in_str (X := X)))
  exact h
theorem op_notInAll : OpR X (compareOp .NotIn) (rInAll X.K true) := by
  have h := (op_notIn_seq (X := X)).or ((op_notInS (X := X)).or (op_notin_str (X := X)))
  exact h
theorem one_sign {x : Str} (h : x.cps.size = 1) : x = ⟨#[x.cps.getD 0 0]⟩ := by
  obtain ⟨⟨l⟩⟩ := x
  match l, h with
  | [c], _ => rfl
theorem binS_in {neg : Bool} : BinS K (rInAll K neg) (fIn neg) := by
  intro x y dx dy R Z H Q e rx ry hf k
  unfold fIn at hf
  split at hf
  · split at hf
    · cases hf
      rename_i ys h
      obtain ⟨a, vs, rfl, ha, ra⟩ := ry.list e
      obtain ⟨fx, px⟩ := rx.flat h.1
      refine .inl ⟨a, vs, rfl, .inl (SqL.of ha), fx, ra.flat h.2, ?_⟩
      rw [inV_inD px h.1 ra h.2]
      exact k _ Z H (.refl e) (.bl _)
    · cases hf
  · split at hf
    · cases hf
      rename_i ys h
      obtain ⟨a, vs, rfl, ha, ra, _⟩ := ry.tup e
      obtain ⟨fx, px⟩ := rx.flat h.1
      refine .inl ⟨a, vs, rfl, .inr (SqT.of ha), fx, ra.flat h.2, ?_⟩
      rw [inV_inD px h.1 ra h.2]
      exact k _ Z H (.refl e) (.bl _)
    · cases hf
  · split at hf
    · cases hf
      rename_i ys h
      obtain ⟨a, vs, rfl, ha, ra⟩ := ry.kon e
      obtain ⟨fx, px⟩ := rx.flat h.1
      refine .inl ⟨a, vs, rfl, .inr ha, fx, ra.flat h.2, ?_⟩
      rw [inV_inD px h.1 ra h.2]
      exact k _ Z H (.refl e) (.bl _)
    · cases hf
  · rename_i i j
    cases hf
    have k' := k _ Z H (.refl e) (.bl _)
    by_cases h1 : i.cps.size = 1
    · refine .inr (.inl ?_)
      have q : inT i j = decide (i.cps.getD 0 0 ∈ j.cps.toList) := by unfold inT; rw [if_pos h1]
      rw [q] at k'
      cases neg with
      | true =>
        show rNotInS x y H Q
        exact ⟨_, j, by rw [rx.str, ← one_sign h1], ry.str, k'⟩
      | false =>
        show rInS x y H Q
        exact ⟨_, j, by rw [rx.str, ← one_sign h1], ry.str, k'⟩
    · refine .inr (.inr ⟨i, j, rx.str, ry.str, ?_⟩)
      have q : inT i j = (!(Builtin.Str.occurrences j i 0 j.length 1).isEmpty) := by unfold inT; rw [if_neg h1]
      rw [q] at k'
      exact k'
  · cases hf
end
/-! ### unary -/
def UnS (K : PySem.W.Frag) (r : V → Hp → VK → Prop) (f : D → Option Rs) : Prop := ∀ (x : V) (dx : D) (R : Rs) (Z H : Hp) (Q : VK), Same Z H → Rdb K Z H x dx → f dx = some R →
  (∀ v Z' H', Grow Z H Z' H' → ResG K Z' H H' v R → Q v H') → r x H Q
def un1 (f : D → Option Rs) (a : Va) (ρ : Rho) : M Rs := match rdV ρ a with
  | some dx => match f dx with
    | some r => .ok r ρ
    | none => .st
  | _ => .st
@[simp] theorem un1_pu (f : D → Option Rs) (a : D) (ρ : Rho) : un1 f (.pu a) ρ = match f a with | some r => .ok r ρ | none => .st := rfl
def oUn (f : D → Option Rs) (oa : O Va) : O Rs := fun ρ => (oa ρ).bind (un1 f)
def fNeg : D → Option Rs
  | .int i => some (.pu (.int (-i)))
  | _ => none
section
variable {X : Cx} {G : Gm} {B : Wish} {a b : Expr} {pos : Pos} {oa ob : O Va}
theorem run_un {K : PySem.W.Frag} {r : V → Hp → VK → Prop} {f : D → Option Rs} (hf : UnS K r f) {σ : St} {H : Hp} {Q : VK} (w : Run K G B (RsR K G) (oUn f oa) σ H Q) : Run K G B (VaR K) oa σ H fun x H1 => r x H1 Q := by
  obtain ⟨Z, ρ, S, p⟩ := w
  refine ⟨Z, ρ, S, Post.bind p fun x a ρ1 Z1 H1 e1 S1 r1 p1 => ?_⟩
  unfold un1 at p1
  split at p1
  · rename_i dx hx
    split at p1
    · rename_i R hR
      exact hf x dx R Z1 H1 Q S1.zh (S1.rdb r1 hx) hR fun v Z' H' g h => p1.fin S1 g h
    · exact p1.elim
  · exact p1.elim
theorem rd_un {op : UnaryOp} {r : V → Hp → VK → Prop} {f : D → Option Rs} (ho : UnR X (unaryOp op) r) (hf : UnS X.K r f) (ha : ED X G B a oa) : RD X G B (.UnaryOp op a pos) (oUn f oa) :=
  pe_imp (pe_un ho ha) fun _ _ _ w => run_un hf w
theorem unS_neg {K : PySem.W.Frag} : UnS K (rU fun i => .int (-i)) fNeg := by
  intro x dx R Z H Q e rx hf k
  unfold fNeg at hf
  split at hf
  · cases hf; exact ⟨_, rx.int, k _ Z H (.refl e) (.int _)⟩
  · cases hf
/-! ### the operators by name -/
theorem rd_add (ha : ED X G B a oa) (hb : ED X G B b ob) : RD X G B (.BinOp a .Add b pos) (oBin fAdd oa ob) := rd_bin op_addAll binS_add ha hb
theorem rd_sub (ha : ED X G B a oa) (hb : ED X G B b ob) : RD X G B (.BinOp a .Sub b pos) (oBin fSub oa ob) := rd_bin op_sub binS_int ha hb
theorem rd_mul (ha : ED X G B a oa) (hb : ED X G B b ob) : RD X G B (.BinOp a .Mult b pos) (oBin fMul oa ob) := rd_bin op_mulAll binS_mul ha hb
theorem rd_fdiv (ha : ED X G B a oa) (hb : ED X G B b ob) : RD X G B (.BinOp a .FloorDiv b pos) (oBin fDiv oa ob) := rd_bin op_fdivW binS_div ha hb
theorem rd_mod (ha : ED X G B a oa) (hb : ED X G B b ob) : RD X G B (.BinOp a .Mod b pos) (oBin fMod oa ob) := rd_bin op_mod binS_mod ha hb
theorem rd_pow (ha : ED X G B a oa) (hb : ED X G B b ob) : RD X G B (.BinOp a .Pow b pos) (oBin fPow oa ob) := rd_bin op_pow binS_pow ha hb
theorem rd_shl (ha : ED X G B a oa) (hb : ED X G B b ob) : RD X G B (.BinOp a .LShift b pos) (oBin fShl oa ob) := rd_bin op_shl binS_shl ha hb
theorem rd_shr (ha : ED X G B a oa) (hb : ED X G B b ob) : RD X G B (.BinOp a .RShift b pos) (oBin fShr oa ob) := rd_bin op_shr binS_shr ha hb
theorem rd_band (ha : ED X G B a oa) (hb : ED X G B b ob) : RD X G B (.BinOp a .BitAnd b pos) (oBin fAnd oa ob) := rd_bin op_and binS_int ha hb
theorem rd_bor (ha : ED X G B a oa) (hb : ED X G B b ob) : RD X G B (.BinOp a .BitOr b pos) (oBin fOr oa ob) := rd_bin op_or binS_int ha hb
theorem rd_bxor (ha : ED X G B a oa) (hb : ED X G B b ob) : RD X G B (.BinOp a .BitXor b pos) (oBin fXor oa ob) := rd_bin op_xor binS_int ha hb
theorem rd_neg (ha : ED X G B a oa) : RD X G B (.UnaryOp .USub a pos) (oUn fNeg oa) := rd_un un_neg unS_neg ha
/-- a comparison's rule, for values and for tests -/
structure CmpK (X : Cx) (op : CmpOp) (r : R2) (f : D → D → Option Rs) : Prop where
  o : OpR X (compareOp op) r
  s : BinS X.K r f
theorem ck_eq {k : Nat} (hr : Room k X.A) : CmpK X .Eq (rEqD X.K) fEq := ⟨op_eqD hr.units, binS_eq⟩
theorem ck_ne {k : Nat} (hr : Room k X.A) : CmpK X .NotEq (rNeD X.K) fNe := ⟨op_neD hr.units, binS_ne⟩
theorem ck_lt : CmpK X .Lt (rI0 fun i j => .bl (decide (i < j))) fLt := ⟨op_lt, binS_cmp⟩
theorem ck_le : CmpK X .LtE (rI0 fun i j => .bl (decide (i ≤ j))) fLe := ⟨op_le, binS_cmp⟩
theorem ck_gt : CmpK X .Gt (rI0 fun i j => .bl (decide (j < i))) fGt := ⟨op_gt, binS_cmp⟩
theorem ck_ge : CmpK X .GtE (rI0 fun i j => .bl (decide (j ≤ i))) fGe := ⟨op_ge, binS_cmp⟩
theorem ck_is : CmpK X .Is rIsN (fIsN false) := ⟨op_isN, binS_isN⟩
theorem ck_isnot : CmpK X .IsNot rNotN (fIsN true) := ⟨op_notN, binS_notN⟩
theorem ck_in : CmpK X .In (rInAll X.K false) (fIn false) := ⟨op_inAll, binS_in⟩
theorem ck_notin : CmpK X .NotIn (rInAll X.K true) (fIn true) := ⟨op_notInAll, binS_in⟩
theorem rd_ck {op : CmpOp} {r : R2} {f : D → D → Option Rs} (c : CmpK X op r f) (ha : ED X G B a oa) (hb : ED X G B b ob) (hm : behindInMarks op b = false := by first | exact nomark _ | rfl) : RD X G B (.Compare a [op] [b] pos) (oBin f oa ob) := rd_cmp c.o c.s hm ha hb
end
end Ow
namespace Ow
open PySem L2
/-! ### tests -/
def tst1 (r : Rs) (ρ : Rho) : M Bool := match r with
  | .pu (.bool b) => .ok b ρ
  | _ => .st
@[simp] theorem tst1_b (b : Bool) (ρ : Rho) : tst1 (.pu (.bool b)) ρ = .ok b ρ := rfl
def oTst (o : O Rs) : O Bool := fun ρ => (o ρ).bind tst1
def fTru : D → Option Bool
  | .none => some false
  | .bool b => some b
  | .int i => some (i != 0)
  | .str x => if x.length ≤ 16000000 then some (x.length != 0) else none
  | .list xs => some (!xs.isEmpty)
  | .tuple xs => some (!xs.isEmpty)
  | .dict _ => none
def tru1 (a : Va) (ρ : Rho) : M Bool := match a with
  | .pu d => match fTru d with
    | some b => .ok b ρ
    | none => .st
  | .rf i => match ρ[i]? with
    | some (.ow _ (.li ds)) => .ok (!ds.isEmpty) ρ
    | some (.ow _ (.dk kvs)) => .ok (!kvs.isEmpty) ρ
    | _ => .st
@[simp] theorem tru1_pu (d : D) (ρ : Rho) : tru1 (.pu d) ρ = match fTru d with | some b => .ok b ρ | none => .st := rfl
def oTru (o : O Va) : O Bool := fun ρ => (o ρ).bind tru1
def oAnd (a b : O Bool) : O Bool := fun ρ => (a ρ).bind fun c ρ1 => if c = true then b ρ1 else .ok false ρ1
def oOr (a b : O Bool) : O Bool := fun ρ => (a ρ).bind fun c ρ1 => if c = true then .ok true ρ1 else b ρ1
def oNot (a : O Bool) : O Bool := fun ρ => (a ρ).bind fun c ρ1 => .ok (!c) ρ1
def oBl (a : O Bool) : O D := fun ρ => (a ρ).bind fun c ρ1 => .ok (.bool c) ρ1
def oIf {α : Type} (c : O Bool) (a b : O α) : O α := fun ρ => (c ρ).bind fun t ρ1 => if t = true then a ρ1 else b ρ1
def bl1 (d : D) (f : Bool → M D) : M D := match d with
  | .bool c => f c
  | _ => .st
@[simp] theorem bl1_b (c : Bool) (f : Bool → M D) : bl1 (.bool c) f = f c := rfl
def oAndV (a b : O D) : O D := fun ρ => (a ρ).bind fun d ρ1 => bl1 d fun c => if c = true then b ρ1 else .ok (.bool false) ρ1
def oOrV (a b : O D) : O D := fun ρ => (a ρ).bind fun d ρ1 => bl1 d fun c => if c = true then .ok (.bool true) ρ1 else b ρ1
def oNotV (a : O D) : O D := fun ρ => (a ρ).bind fun d ρ1 => bl1 d fun c => .ok (.bool (!c)) ρ1
def WD (X : Cx) (G : Gm) (B : Wish) (e : Expr) (o : O Bool) : Prop := PW X e (Run X.K G B BoR o)
section
variable {X : Cx} {G : Gm} {B : Wish} {a b c e : Expr} {rest : List Expr} {pos : Pos} {ta tb tc : O Bool} {oa ob oc : O Va}
theorem run_tst {K : PySem.W.Frag} {o : O Rs} {σ : St} {H : Hp} {Q : Bool → Hp → Prop} (w : Run K G B BoR (oTst o) σ H Q) : Run K G B (RsR K G) o σ H fun x H1 => ∃ k, x = .bl k ∧ Q k H1 :=
  run_imp w fun x r ρ1 Z1 H1 S1 q p1 => by
    unfold tst1 at p1
    split at p1
    · rename_i b
      have q' : Rp K Z1 x (.bool b) := q
      cases q'
      exact ⟨b, rfl, p1 b Z1 H1 (.refl _) S1 rfl⟩
    · exact p1.elim
theorem td_ck {op : CmpOp} {r : R2} {f : D → D → Option Rs} (k : CmpK X op r f) (ha : ED X G B a oa) (hb : ED X G B b ob) (hm : behindInMarks op b = false := by first | exact nomark _ | rfl) : TD X G B (.Compare a [op] [b] pos) (oTst (oBin f oa ob)) :=
  pt_imp (pt_cmpR k.o ha hb hm) fun _ _ _ w => run_bin k.s (run_tst w)
theorem td_rd {o : O Rs} (h : RD X G B e o) (he : ∀ whole, isTrue e X.env whole = (do let v ← whole; standAt e.pos; holding [v] (truthy v)) := by intro _; rfl) : TD X G B e (oTst o) :=
  pt_imp (pt_val h he) fun _ _ _ w => run_tst w
theorem td_tru {o : O Va} (h : ED X G B e o) (he : ∀ whole, isTrue e X.env whole = (do let v ← whole; standAt e.pos; holding [v] (truthy v)) := by intro _; rfl) : TD X G B e (oTru o) :=
  pt_imp (pt_truth h he) fun σ H Q w => run_imp w fun x va ρ1 Z1 H1 S1 q p1 => by
    unfold tru1 at p1
    split at p1
    · rename_i d
      split at p1
      · rename_i k hk
        refine ⟨k, ?_, p1 k Z1 H1 (.refl _) S1 rfl⟩
        have q' : Rp X.K Z1 x d := q
        unfold fTru at hk
        split at hk
        · cases hk; cases q'; rfl
        · cases hk; cases q'; rfl
        · cases hk; cases q'; rfl
        · split at hk
          · cases hk; cases q'; exact ⟨lim_le ‹_›, by simp only [bne]; congr 1; rw [Bool.eq_iff_iff]; simp⟩
          · cases hk
        · cases hk
          cases q' with
          | lst h1 h2 =>
            refine .inl ⟨_, SqL.of (S1.zh _ _ h1), ?_⟩
            cases h2 <;> rfl
        · cases hk
          cases q' with
          | tup h1 h2 =>
            refine .inr (.inl ⟨_, SqT.of (S1.zh _ _ h1), ?_⟩)
            cases h2 <;> rfl
        · cases hk
      · exact p1.elim
    · rename_i i
      have q' : σ[i]? = some (some x) := q
      split at p1
      · rename_i p ds hr
        obtain ⟨b, o, q1, ho, r, _⟩ := S1.ow i _ _ hr
        rw [q1] at q'; cases q'
        cases o with
        | lst vs =>
          refine ⟨!ds.isEmpty, .inl ⟨vs, SqL.of ho, ?_⟩, p1 _ Z1 H1 (.refl _) S1 rfl⟩
          cases (show RpAll X.K Z1 vs ds from r) <;> rfl
        | _ => exact r.elim
      · rename_i p kvs hr
        obtain ⟨b, o, q1, ho, r, _⟩ := S1.ow i _ _ hr
        rw [q1] at q'; cases q'
        cases o with
        | dK vs =>
          refine ⟨!kvs.isEmpty, .inr (.inr ⟨vs, ho, ?_⟩), p1 _ Z1 H1 (.refl _) S1 rfl⟩
          cases (show KvR X.K Z1 vs kvs from r) <;> rfl
        | _ => exact r.elim
      · exact p1.elim
theorem wd_and1 (h : TD X G B a ta) : WD X G B (.BoolOp .And [a] pos) ta := pw_and1 h
theorem wd_or1 (h : TD X G B a ta) : WD X G B (.BoolOp .Or [a] pos) ta := pw_or1 h
theorem pw_imp {e : Expr} {t t' : TT} (h : PW X e t) (k : ∀ σ H Q, t' σ H Q → t σ H Q) : PW X e t' := ⟨fun wh pins s σ H Q I w => h.run wh pins s σ H Q I (k _ _ _ w)⟩
theorem wd_and (ha : TD X G B a ta) (hb : WD X G B (.BoolOp .And (b :: rest) pos) tb) : WD X G B (.BoolOp .And (a :: b :: rest) pos) (oAnd ta tb) :=
  pw_imp (pw_and ha hb) fun σ H Q w => run_imp w fun x k ρ1 Z1 H1 S1 q p1 => by
    have q : x = k := q
    subst q
    cases x with
    | true => exact ⟨Z1, ρ1, S1, p1⟩
    | false => exact p1 false Z1 H1 (.refl _) S1 rfl
theorem wd_or (ha : TD X G B a ta) (hb : WD X G B (.BoolOp .Or (b :: rest) pos) tb) : WD X G B (.BoolOp .Or (a :: b :: rest) pos) (oOr ta tb) :=
  pw_imp (pw_or ha hb) fun σ H Q w => run_imp w fun x k ρ1 Z1 H1 S1 q p1 => by
    have q : x = k := q
    subst q
    cases x with
    | true => exact p1 true Z1 H1 (.refl _) S1 rfl
    | false => exact ⟨Z1, ρ1, S1, p1⟩
theorem td_w (h : WD X G B e ta) : TD X G B e ta := PW.pt h
theorem td_not (ha : TD X G B a ta) : TD X G B (.UnaryOp .Not a pos) (oNot ta) :=
  pt_imp (pt_not ha) fun σ H Q w => run_imp w fun x k ρ1 Z1 H1 S1 q p1 => by
    have q : x = k := q
    subst q
    exact p1 _ Z1 H1 (.refl _) S1 rfl
/-! .. as values -/
theorem pd_one {op} {o : O D} (h : PD X G B a o) : PD X G B (.BoolOp op [a] pos) o := pe_one h
theorem pd_and {o o' : O D} (ha : PD X G B a o) (hb : PD X G B (.BoolOp .And (b :: rest) pos) o') : PD X G B (.BoolOp .And (a :: b :: rest) pos) (oAndV o o') :=
  pe_imp (pe_and ha hb) fun σ H Q w => run_imp w fun x k ρ1 Z1 H1 S1 q p1 => by
    unfold bl1 at p1
    split at p1
    · rename_i c
      have q' : Rp X.K Z1 x (.bool c) := q
      cases q'
      refine ⟨c, rfl, ?_⟩
      cases c with
      | true => exact ⟨Z1, ρ1, S1, p1⟩
      | false => exact p1 _ Z1 H1 (.refl _) S1 (.bl _)
    · exact p1.elim
theorem pd_or {o o' : O D} (ha : PD X G B a o) (hb : PD X G B (.BoolOp .Or (b :: rest) pos) o') : PD X G B (.BoolOp .Or (a :: b :: rest) pos) (oOrV o o') :=
  pe_imp (pe_or ha hb) fun σ H Q w => run_imp w fun x k ρ1 Z1 H1 S1 q p1 => by
    unfold bl1 at p1
    split at p1
    · rename_i c
      have q' : Rp X.K Z1 x (.bool c) := q
      cases q'
      refine ⟨c, rfl, ?_⟩
      cases c with
      | true => exact p1 _ Z1 H1 (.refl _) S1 (.bl _)
      | false => exact ⟨Z1, ρ1, S1, p1⟩
    · exact p1.elim
theorem pd_not {o : O D} (ha : PD X G B a o) : PD X G B (.UnaryOp .Not a pos) (oNotV o) :=
  pe_imp (pe_not ha) fun σ H Q w => run_imp w fun x k ρ1 Z1 H1 S1 q p1 => by
    unfold bl1 at p1
    split at p1
    · rename_i c
      have q' : Rp X.K Z1 x (.bool c) := q
      cases q'
      exact ⟨c, rfl, p1 _ Z1 H1 (.refl _) S1 (.bl _)⟩
    · exact p1.elim
theorem rd_if {o o' : O Rs} (hc : TD X G B c tc) (ha : RD X G B a o) (hb : RD X G B b o') : RD X G B (.IfExp c a b pos) (oIf tc o o') :=
  pe_imp (pe_ifExp hc ha hb) fun σ H Q w => run_imp w fun x k ρ1 Z1 H1 S1 q p1 => by
    have q : x = k := q
    subst q
    cases x with
    | true => exact ⟨Z1, ρ1, S1, p1⟩
    | false => exact ⟨Z1, ρ1, S1, p1⟩
theorem ed_if {o o' : O Va} (hc : TD X G B c tc) (ha : ED X G B a o) (hb : ED X G B b o') : ED X G B (.IfExp c a b pos) (oIf tc o o') :=
  pe_imp (pe_ifExp hc ha hb) fun σ H Q w => run_imp w fun x k ρ1 Z1 H1 S1 q p1 => by
    have q : x = k := q
    subst q
    cases x with
    | true => exact ⟨Z1, ρ1, S1, p1⟩
    | false => exact ⟨Z1, ρ1, S1, p1⟩
end
/-! ### two comparisons in a row -/
def oChain (f g : D → D → Option Rs) (oa ob oc : O Va) : O Rs := fun ρ => (oa ρ).bind fun a ρ1 => (ob ρ1).bind fun b ρ2 => (bin1 f a b ρ2).bind fun r ρ3 => (tst1 r ρ3).bind fun k ρ4 => if k = true then (oc ρ4).bind fun c ρ5 => bin1 g b c ρ5 else .ok (.pu (.bool false)) ρ4
section
variable {X : Cx} {G : Gm} {B : Wish} {a b c e : Expr} {rest : List Expr} {pos : Pos} {oa ob oc : O Va}
theorem bin1_run {K : PySem.W.Frag} {r : R2} {f : D → D → Option Rs} (hf : BinS K r f) {σ : St} {Z H : Hp} {ρ : Rho} {x y : V} {a b : Va} {Q : VK} (S : Sim K G Z ρ σ H) (rx : VaR K Z ρ σ H x a) (ry : VaR K Z ρ σ H y b)
    (p : Post K G B (RsR K G) σ Z (bin1 f a b ρ) Q) : r x y H Q := by
  unfold bin1 at p
  split at p
  · rename_i dx dy hx hy
    split at p
    · rename_i R hR
      exact hf x y dx dy R Z H Q S.zh (S.rdb rx hx) (S.rdb ry hy) hR fun v Z' H' g h => p.fin S g h
    · exact p.elim
  · exact p.elim
theorem run_chain {K : PySem.W.Frag} {r r' : R2} {f g : D → D → Option Rs} (hf : BinS K r f) (hg : BinS K r' g) {σ : St} {H : Hp} {Q : VK} (w : Run K G B (RsR K G) (oChain f g oa ob oc) σ H Q) :
    tChain r r' (Run K G B (VaR K) oa) (Run K G B (VaR K) ob) (Run K G B (VaR K) oc) σ H Q := by
  obtain ⟨Z, ρ, S, p⟩ := w
  refine ⟨Z, ρ, S, Post.bind p fun x a ρ1 Z1 H1 e1 S1 r1 p1 => ⟨Z1, ρ1, S1, Post.bind p1 fun y b ρ2 Z2 H2 e2 S2 r2 p2 => ?_⟩⟩
  refine bin1_run hf S2 (r1.mono (ρ' := ρ2) (H' := H2) e2) r2 (Post.bind p2 fun z r ρ3 Z3 H3 e3 S3 r3 p3 => ?_)
  unfold tst1 at p3
  split at p3
  · rename_i k
    have q : Rp K Z3 z (.bool k) := r3
    cases q
    refine ⟨k, rfl, ?_⟩
    cases k with
    | true =>
      refine ⟨Z3, ρ3, S3, Post.bind (R' := RsR K G) p3 fun w c ρ5 Z5 H5 e5 S5 r5 p5 => ?_⟩
      exact bin1_run hg S5 (r2.mono (ρ' := ρ5) (H' := H5) (e3.trans e5)) r5 p5
    | false => exact p3 _ Z3 H3 (.refl _) S3 (.bl _)
  · exact p3.elim
theorem rd_chain {op op' : CmpOp} {r r' : R2} {f g : D → D → Option Rs} (k : CmpK X op r f) (k' : CmpK X op' r' g) (ha : ED X G B a oa) (hb : ED X G B b ob) (hc : ED X G B c oc) (hl : lastMarks [op, op'] [b, c] = false := by with_unfolding_all rfl) :
    RD X G B (.Compare a [op, op'] [b, c] pos) (oChain f g oa ob oc) := pe_imp (pe_chain k.o k'.o ha hb hc hl) fun _ _ _ w => run_chain k.s k'.s w
theorem td_chain {op op' : CmpOp} {r r' : R2} {f g : D → D → Option Rs} (k : CmpK X op r f) (k' : CmpK X op' r' g) (ha : ED X G B a oa) (hb : ED X G B b ob) (hc : ED X G B c oc) (hl : lastMarks [op, op'] [b, c] = false := by with_unfolding_all rfl) :
    TD X G B (.Compare a [op, op'] [b, c] pos) (oTst (oChain f g oa ob oc)) := pt_imp (pt_chain k.o k'.o ha hb hc hl) fun _ _ _ w => run_chain k.s k'.s (run_tst w)
end
end Ow
namespace Ow
open PySem L2
/-! ### rows of expressions -/
def PusR (K : PySem.W.Frag) : Rel (List D) (List V) := fun Z ρ σ H vs ds => RpAll K Z vs ds
/-- a row of data to be kept (displays) -/
def QD (X : Cx) (G : Gm) (B : Wish) (es : List Expr) (o : O (List D)) : Prop := PA X es (Run X.K G B (PusR X.K) o)
def oNil {α : Type} : O (List α) := fun ρ => .ok [] ρ
def oCons {α : Type} (a : O α) (r : O (List α)) : O (List α) := fun ρ => (a ρ).bind fun x ρ1 => (r ρ1).bind fun xs ρ2 => .ok (x :: xs) ρ2
def oTup (o : O (List D)) : O D := fun ρ => (o ρ).bind fun ds ρ1 => if ds.length ≤ 16000000 then .ok (.tuple ds) ρ1 else .st
def oLst (o : O (List D)) : O Rs := fun ρ => (o ρ).bind fun ds ρ1 => if ds.length ≤ 16000000 then .ok (.nw (.li ds)) ρ1 else .st
section
variable {X : Cx} {G : Gm} {B : Wish} {e : Expr} {es : List Expr} {pos : Pos}
theorem VasR.mono {K : PySem.W.Frag} {Z Z' : Hp} {ρ ρ' : Rho} {σ : St} {H H' : Hp} {vs : List V} {as : List Va} (h : VasR K Z ρ σ H vs as) (e : Same Z Z') : VasR K Z' ρ' σ H' vs as :=
  Paired.mapP h fun _ _ r => VaR.mono r e
theorem qd_nil : QD X G B [] oNil := pa_imp pa_nil fun σ H Q ⟨Z, ρ, S, p⟩ => p [] Z H (.refl _) S .nil
theorem qd_cons {o : O D} {o' : O (List D)} (h : PD X G B e o) (h' : QD X G B es o') (hs : starEach (e :: es) X.env = (false, eval e X.env) :: starEach es X.env := by rfl) : QD X G B (e :: es) (oCons o o') :=
  pa_imp (pa_cons h h' hs) fun σ H Q w => run_imp w fun x d ρ1 Z1 H1 S1 r1 p1 => ⟨Z1, ρ1, S1, Post.bind p1 fun xs ds ρ2 Z2 H2 e2 S2 r2 p2 => p2 _ Z2 H2 (.refl _) S2 (.cons (Rp.mono r1 e2) r2)⟩
theorem ad_nil : AD X G B [] oNil := pa_imp pa_nil fun σ H Q ⟨Z, ρ, S, p⟩ => p [] Z H (.refl _) S .nil
theorem ad_cons {o : O Va} {o' : O (List Va)} (h : ED X G B e o) (h' : AD X G B es o') (hs : starEach (e :: es) X.env = (false, eval e X.env) :: starEach es X.env := by rfl) : AD X G B (e :: es) (oCons o o') :=
  pa_imp (pa_cons h h' hs) fun σ H Q w => run_imp w fun x d ρ1 Z1 H1 S1 r1 p1 => ⟨Z1, ρ1, S1, Post.bind p1 fun xs ds ρ2 Z2 H2 e2 S2 r2 p2 => p2 _ Z2 H2 (.refl _) S2 (.cons (VaR.mono r1 e2) r2)⟩
theorem pd_tup {o : O (List D)} {k} (h : QD X G B es o) : PD X G B (.Tuple es k pos) (oTup o) :=
  pe_imp (pe_tup h) fun σ H Q w => run_imp w fun vs ds ρ1 Z1 H1 S1 r1 p1 => by
    split at p1
    · rename_i hz
      refine ⟨by rw [RpAll.length r1]; exact lim_le hz, fun p hp => ?_⟩
      have g := Grow.still S1.zh hp (.tup vs)
      exact p1 _ _ _ g.z (S1.grow g) (.tup upd_same (RpAll.mono r1 g.z))
    · exact p1.elim
theorem rd_lst {o : O (List D)} (h : QD X G B es o) : RD X G B (.List es pos) (oLst o) :=
  pe_imp (pe_lst h) fun σ H Q w => run_imp w fun vs ds ρ1 Z1 H1 S1 r1 p1 => by
    split at p1
    · rename_i hz
      refine ⟨by rw [RpAll.length r1]; exact lim_le hz, fun p hp => ?_⟩
      exact p1.fin S1 (.loose S1.zh hp _) ⟨p, _, rfl, hp, S1.fresh hp, upd_same, r1⟩
    · exact p1.elim
end
/-! ### subscripts, slices -/
def fIx : D → D → Option Rs
  | .list xs, .int i => (atI xs i).map .pu
  | .tuple xs, .int i => (atI xs i).map .pu
  | .str x, .int i => if x.length ≤ 16000000 then (atI x.cps.toList i).map fun c => .pu (.str ⟨#[c]⟩) else none
  | .dict [(.none, .list xs)], .int i => (atI xs i).map .pu
  | .dict [(.bool true, .tuple xs)], .int i => (atI xs i).map .pu
  | _, _ => none
theorem atI_rp {K : PySem.W.Frag} {Z : Hp} {vs : List V} {ds : List D} {i : Int} {d : D} (r : RpAll K Z vs ds) (h : atI ds i = some d) : ∃ v, atI vs i = some v ∧ Rp K Z v d := by
  unfold atI at h ⊢
  rw [r.length]
  cases e : ixN ds.length i with
  | none => rw [e] at h; cases h
  | some j =>
    rw [e] at h
    exact r.get h
theorem binS_ix {K : PySem.W.Frag} : BinS K (rIx K) fIx := by
  intro x y dx dy R Z H Q e rx ry hf k
  unfold fIx at hf
  split at hf
  · rename_i xs i
    cases h : atI xs i with
    | none => rw [h] at hf; cases hf
    | some d =>
      rw [h] at hf; cases hf
      obtain ⟨a, vs, rfl, ha, ra⟩ := rx.list e
      obtain ⟨v, hv, rv⟩ := atI_rp ra h
      exact .inl ⟨a, vs, i, v, rfl, ry.int, SqL.of ha, hv, k v Z H (.refl e) rv⟩
  · rename_i xs i
    cases h : atI xs i with
    | none => rw [h] at hf; cases hf
    | some d =>
      rw [h] at hf; cases hf
      obtain ⟨a, vs, rfl, ha, ra, _⟩ := rx.tup e
      obtain ⟨v, hv, rv⟩ := atI_rp ra h
      exact .inr (.inl ⟨a, vs, i, v, rfl, ry.int, SqT.of ha, hv, k v Z H (.refl e) rv⟩)
  · rename_i x i
    split at hf
    · cases h : atI x.cps.toList i with
      | none => rw [h] at hf; cases hf
      | some d =>
        rw [h] at hf; cases hf
        exact .inr (.inr ⟨x, i, d, rx.str, ry.int, lim_le ‹_›, h, k _ Z H (.refl e) (.str _)⟩)
    · cases hf
  · rename_i xs i
    cases h : atI xs i with
    | none => rw [h] at hf; cases hf
    | some d =>
      rw [h] at hf; cases hf
      obtain ⟨a, vs, rfl, ha, ra⟩ := rx.scr e
      obtain ⟨v, hv, rv⟩ := atI_rp ra h
      exact .inl ⟨a, vs, i, v, rfl, ry.int, ha, hv, k v Z H (.refl e) rv⟩
  · rename_i xs i
    cases h : atI xs i with
    | none => rw [h] at hf; cases hf
    | some d =>
      rw [h] at hf; cases hf
      obtain ⟨a, vs, rfl, ha, ra⟩ := rx.kon e
      obtain ⟨v, hv, rv⟩ := atI_rp ra h
      exact .inr (.inl ⟨a, vs, i, v, rfl, ry.int, ha, hv, k v Z H (.refl e) rv⟩)
  · cases hf
section
variable {X : Cx} {G : Gm} {B : Wish} {a b e : Expr} {es : List Expr} {pos p2 : Pos} {oa ob : O Va}
theorem rd_ix (ha : ED X G B a oa) (hb : ED X G B b ob) (hs : PlainIx b := by exact fun _ _ => rfl) : RD X G B (.Subscript a b pos) (oBin fIx oa ob) :=
  pe_imp (pe_ix ix_seq ha hb hs) fun _ _ _ w => run_bin binS_ix w
end
def cutD {α : Type} (xs : List α) (lo hi : Option Int) : List α := (xs.drop (HT.sIx xs.length 0 lo)).take (HT.sIx xs.length xs.length hi - HT.sIx xs.length 0 lo)
def fSl : D → Option Int → Option Int → Option Rs
  | .list xs, lo, hi => some (.nw (.li (cutD xs lo hi)))
  | .tuple xs, lo, hi => some (.pu (.tuple (cutD xs lo hi)))
  | .str x, lo, hi => if x.length ≤ 16000000 then some (.pu (.str (cutS x lo hi))) else none
  | .dict [(.bool true, .tuple xs)], lo, hi => if HT.sIx xs.length 0 lo = 0 ∧ HT.sIx xs.length xs.length hi = xs.length then some (.pu (kon xs)) else some (.pu (.tuple (cutD xs lo hi)))
  | _, _, _ => none
def OpR' : Rel (Option Int) (Option Int) := fun _ _ _ _ a b => a = b
def OD (X : Cx) (G : Gm) (B : Wish) (e : Option Expr) (o : O (Option Int)) : Prop := PO X e (Run X.K G B OpR' o)
def part1 (d : D) (ρ : Rho) : M (Option Int) := match d with
  | .int i => .ok (some i) ρ
  | _ => .st
@[simp] theorem part1_i (i : Int) (ρ : Rho) : part1 (.int i) ρ = .ok (some i) ρ := rfl
def oPart (o : O D) : O (Option Int) := fun ρ => (o ρ).bind part1
def oNoPart : O (Option Int) := fun ρ => .ok none ρ
def sl1 (a : Va) (lo hi : Option Int) (ρ : Rho) : M Rs := match rdV ρ a with
  | some d => match fSl d lo hi with
    | some r => .ok r ρ
    | none => .st
  | none => .st
def oSl (oa : O Va) (ol oh : O (Option Int)) : O Rs := fun ρ => (oa ρ).bind fun a ρ1 => (ol ρ1).bind fun lo ρ2 => (oh ρ2).bind fun hi ρ3 => sl1 a lo hi ρ3
section
variable {X : Cx} {G : Gm} {B : Wish} {a b e : Expr} {lo hi : Option Expr} {es : List Expr} {pos p2 : Pos} {oa ob : O Va}
theorem po_imp {e : Option Expr} {t t' : TO} (h : PO X e t) (k : ∀ σ H Q, t' σ H Q → t σ H Q) : PO X e t' := ⟨fun pins s σ H Q I w => h.run pins s σ H Q I (k _ _ _ w)⟩
theorem od_some {o : O D} (h : PD X G B e o) : OD X G B (some e) (oPart o) := po_imp (po_some h) fun σ H Q w => run_imp w fun x d ρ1 Z1 H1 S1 r1 p1 => by
  unfold part1 at p1
  split at p1
  · rename_i i
    have q : Rp X.K Z1 x (.int i) := r1
    cases q
    exact ⟨i, rfl, p1 _ Z1 H1 (.refl _) S1 rfl⟩
  · exact p1.elim
theorem od_none : OD X G B none oNoPart := po_imp po_none fun σ H Q ⟨Z, ρ, S, p⟩ => p none Z H (.refl _) S rfl
theorem SlR.or {r r' : V → Option Int → Option Int → Hp → VK → Prop} (h : SlR X r) (h' : SlR X r') : SlR X (fun x lo hi H Q => r x lo hi H Q ∨ r' x lo hi H Q) :=
  fun pins s σ H x v vl vu lo hi sl Q I rx hs pl pu w => w.elim (h pins s σ H x v vl vu lo hi sl Q I rx hs pl pu) (h' pins s σ H x v vl vu lo hi sl Q I rx hs pl pu)
theorem rd_sl {ol oh : O (Option Int)} (ha : ED X G B a oa) (hl : OD X G B lo ol) (hh : OD X G B hi oh) : RD X G B (.Subscript a (.Slice lo hi none p2) pos) (oSl oa ol oh) :=
  pe_imp (pe_slice (SlR.or sl_list (SlR.or sl_tupA sl_str)) ha hl hh) fun σ H Q w => run_imp w fun x va ρ1 Z1 H1 S1 r1 p1 =>
    ⟨Z1, ρ1, S1, Post.bind p1 fun l l' ρ2 Z2 H2 e2 S2 r2 p2 => ⟨Z2, ρ2, S2, Post.bind p2 fun u u' ρ3 Z3 H3 e3 S3 r3 p3 => by
      have r2 : l = l' := r2
      have r3 : u = u' := r3
      subst r2 r3
      unfold sl1 at p3
      split at p3
      · rename_i d hd
        have rd := S3.rdb (r1.mono (ρ' := ρ3) (H' := H3) (e2.trans e3)) hd
        have e := S3.zh
        unfold fSl at p3
        split at p3
        · rename_i R hR
          split at hR
          · cases hR
            rename_i xs
            obtain ⟨b, vs, rfl, hb, rb⟩ := rd.list e
            refine .inl ⟨b, vs, rfl, SqL.of hb, fun p hp => ?_⟩
            refine p3.fin S3 (.loose e hp _) ⟨p, _, rfl, hp, S3.fresh hp, upd_same, ?_⟩
            show RpAll X.K Z3 (cutV vs l u) (cutD xs l u)
            unfold cutV cutD
            rw [rb.length]
            exact (rb.drop _).take _
          · cases hR
            rename_i xs
            obtain ⟨b, vs, rfl, hb, rb, qb⟩ := rd.tup e
            have hl := rb.length
            refine .inr (.inl ⟨b, vs, rfl, SqT.of hb, fun hw => ?_, fun hw p hp => ?_⟩)
            · refine p3.fin S3 (.refl e) ?_
              have q : cutD xs l u = xs := by
                unfold cutD
                rw [hl] at hw
                rw [hw.1, hw.2, List.drop_zero, Nat.sub_zero, List.take_length]
              show Rp X.K Z3 _ (.tuple (cutD xs l u))
              rw [q]
              exact qb
            · have g := Grow.still e hp (.tup (cutV vs l u))
              refine p3.fin S3 g (.tup upd_same (RpAll.mono ?_ g.z))
              unfold cutV cutD
              rw [rb.length]
              exact (rb.drop _).take _
          · split at hR
            · cases hR
              exact .inr (.inr ⟨_, rd.str, lim_le ‹_›, p3.fin S3 (.refl e) (.str _)⟩)
            · cases hR
          · rename_i xs
            obtain ⟨b, vs, rfl, hb, rb⟩ := rd.kon e
            have hl := rb.length
            refine .inr (.inl ⟨b, vs, rfl, hb, fun hw => ?_, fun hw p hp => ?_⟩)
            · rw [hl] at hw
              rw [if_pos hw] at hR
              cases hR
              refine p3.fin S3 (.refl e) ?_
              rcases rd with q | ⟨_, _, _, _, q, _⟩
              · exact q
              · cases q
            · rw [hl] at hw
              rw [if_neg hw] at hR
              cases hR
              have g := Grow.still e hp (.tup (cutV vs l u))
              refine p3.fin S3 g (.tup upd_same (RpAll.mono ?_ g.z))
              unfold cutV cutD
              rw [rb.length]
              exact (rb.drop _).take _
          · cases hR
        · exact p3.elim
      · exact p3.elim⟩⟩
end
/-! ### built-ins by their arguments -/
def rdVs (ρ : Rho) : List Va → Option (List D)
  | [] => some []
  | a :: as => match rdV ρ a, rdVs ρ as with
    | some d, some ds => some (d :: ds)
    | _, _ => none
@[simp] theorem rdVs_nil (ρ : Rho) : rdVs ρ [] = some [] := rfl
@[simp] theorem rdVs_cons (ρ : Rho) (a : Va) (as : List Va) : rdVs ρ (a :: as) = match rdV ρ a, rdVs ρ as with | some d, some ds => some (d :: ds) | _, _ => none := rfl
theorem Sim.rdbs {K : PySem.W.Frag} {G : Gm} {Z : Hp} {ρ ρ' : Rho} {σ : St} {H H' : Hp} (S : Sim K G Z ρ σ H) : ∀ {as : List Va} {vs : List V} {ds : List D}, VasR K Z ρ' σ H' vs as → rdVs ρ as = some ds → Paired (Rdb K Z H) vs ds
  | [], _, _, h, e => by cases h; cases e; exact .nil
  | a :: as, _, _, h, e => by
    cases h with
    | cons h1 h2 =>
      unfold rdVs at e
      split at e
      · cases e
        exact .cons (S.rdb h1 ‹_›) (Sim.rdbs S h2 ‹_›)
      · cases e
def CallS (K : PySem.W.Frag) (r : List V → Hp → VK → Prop) (f : List D → Option Rs) : Prop := ∀ (vs : List V) (ds : List D) (R : Rs) (Z H : Hp) (Q : VK), Same Z H → Paired (Rdb K Z H) vs ds → f ds = some R →
  (∀ v Z' H', Grow Z H Z' H' → ResG K Z' H H' v R → Q v H') → r vs H Q
def cb1 (f : List D → Option Rs) (as : List Va) (ρ : Rho) : M Rs := match rdVs ρ as with
  | some ds => match f ds with
    | some r => .ok r ρ
    | none => .st
  | none => .st
def oCB (f : List D → Option Rs) (oas : O (List Va)) : O Rs := fun ρ => (oas ρ).bind (cb1 f)
section
variable {X : Cx} {G : Gm} {B : Wish} {x : Str} {p pos : Pos} {e o : Expr} {es : List Expr} {id T : String} {r : List V → Hp → VK → Prop} {f : List D → Option Rs} {oas : O (List Va)}
theorem run_cb {K : PySem.W.Frag} (hf : CallS K r f) {σ : St} {H : Hp} {Q : VK} (w : Run K G B (RsR K G) (oCB f oas) σ H Q) : tCB r (Run K G B (VasR K) oas) σ H Q :=
  run_imp (C := fun vs H1 => r vs H1 Q) w fun vs as ρ1 Z1 H1 S1 r1 p1 => by
    unfold cb1 at p1
    split at p1
    · rename_i ds hd
      split at p1
      · rename_i R hR
        exact hf vs ds R Z1 H1 Q S1.zh (S1.rdbs r1 hd) hR fun v Z' H' g h => p1.fin S1 g h
      · exact p1.elim
    · exact p1.elim
theorem rd_callB (hc : CallR X (.builtin id) r) (hf : CallS X.K r f) (hg : Gl X x) (hm : X.mg x = none) (hv : bootBuiltins x = some (.builtin id)) (ha : AD X G B (e :: es) oas) (hn : x ≠ "__name__" := by decide) (hdb : (x == ("__debug__" : Str)) = false := by decide)
    (he : starEach (e :: es) X.env = (false, eval e X.env) :: starEach es X.env := by rfl) (hpl : (backTo pos (starEach es X.env)).any (·.1) = false := by rfl) : RD X G B (.Call (.Name x p) (e :: es) [] pos) (oCB f oas) :=
  pe_imp (pe_callB hc hg hm hv ha hn hdb he hpl) fun _ _ _ w => run_cb hf w
theorem rd_callTy (hc : CallR X (.type T) r) (hf : CallS X.K r f) (hg : Gl X x) (hm : X.mg x = none) (hv : bootBuiltins x = some (.type T)) (ha : AD X G B (e :: es) oas) (hn : x ≠ "__name__" := by decide) (hdb : (x == ("__debug__" : Str)) = false := by decide)
    (he : starEach (e :: es) X.env = (false, eval e X.env) :: starEach es X.env := by rfl) (hpl : (backTo pos (starEach es X.env)).any (·.1) = false := by rfl) : RD X G B (.Call (.Name x p) (e :: es) [] pos) (oCB f oas) :=
  pe_imp (pe_callTy hc hg hm hv ha hn hdb he hpl) fun _ _ _ w => run_cb hf w
end
/-! ### methods of built-in things, that change nothing -/
def MetS (K : PySem.W.Frag) (r : V → List V → Hp → VK → Prop) (f : D → List D → Option Rs) : Prop := ∀ (x : V) (d : D) (vs : List V) (ds : List D) (R : Rs) (Z H : Hp) (Q : VK), Same Z H → Rdb K Z H x d → Paired (Rdb K Z H) vs ds → f d ds = some R →
  (∀ v Z' H', Grow Z H Z' H' → ResG K Z' H H' v R → Q v H') → r x vs H Q
def met1 (f : D → List D → Option Rs) (a : Va) (as : List Va) (ρ : Rho) : M Rs := match rdV ρ a, rdVs ρ as with
  | some d, some ds => match f d ds with
    | some r => .ok r ρ
    | none => .st
  | _, _ => .st
def isTy (T : String) (d : D) : Bool := match d with
  | .str _ => T == "str"
  | .list _ => T == "list"
  | .int _ => T == "int"
  | _ => false
def ty1 (T : String) (a : Va) (ρ : Rho) (m : M Rs) : M Rs := match rdV ρ a with
  | some d => if isTy T d = true then m else .st
  | none => .st
def oBM (T : String) (f : D → List D → Option Rs) (oo : O Va) (oas : O (List Va)) : O Rs := fun ρ => (oo ρ).bind fun a ρ1 => ty1 T a ρ1 ((oas ρ1).bind fun as ρ2 => met1 f a as ρ2)
def oBM0 (T : String) (f : D → List D → Option Rs) (oo : O Va) : O Rs := fun ρ => (oo ρ).bind fun a ρ1 => ty1 T a ρ1 (met1 f a [] ρ1)
theorem isTy_v {K : PySem.W.Frag} {Z H : Hp} {x : V} {d : D} {T : String} (h : isTy T d = true) (r : Rdb K Z H x d) (e : Same Z H) : tyV K T x H := by
  unfold isTy at h
  split at h
  · rw [r.str]; exact eq_of_beq h
  · obtain ⟨a, vs, rfl, ha, _⟩ := r.list e; exact .inl ⟨eq_of_beq h, vs, SqL.of ha⟩
  · rw [r.int]; exact eq_of_beq h
  · cases h
section
variable {X : Cx} {G : Gm} {B : Wish} {name : Str} {apos cpos : Pos} {e o : Expr} {es : List Expr} {id T : String} {r : V → List V → Hp → VK → Prop} {f : D → List D → Option Rs} {oo : O Va} {oas : O (List Va)}
theorem rd_bm (pa : PlainAttrs T) (slot : Slot T name id) (hty : typeOf (.builtin id) = pure (.type "method_descriptor")) (hm : MtR X id r) (hf : MetS X.K r f) (ho : ED X G B o oo) (ha : AD X G B (e :: es) oas)
    (hbase : attributeBase o name X.env (eval o X.env) = eval o X.env := by rfl)
    (hfew : ((backTo cpos (starEach (e :: es) X.env)).all (fun x => !x.1) && (backToKw cpos (keywordEach [] X.env)).all (fun x => x.1.isSome)
      && decide ((e :: es).length + ([] : List Keyword).length + (if ([] : List Keyword).isEmpty then 0 else 1) < 30)) = true := by rfl)
    (hline : (apos.endLine == cpos.line) = true := by rfl) (hs : starEach (e :: es) X.env = (false, eval e X.env) :: starEach es X.env := by rfl) (hplain : (backTo cpos (starEach es X.env)).any (·.1) = false := by rfl) :
    RD X G B (.Call (.Attribute o name apos) (e :: es) [] cpos) (oBM T f oo oas) :=
  pe_imp (pe_bm pa slot hty hm ho ha hbase hfew hline hs hplain) fun σ H Q w => run_imp w fun x va ρ1 Z1 H1 S1 r1 p1 => by
    unfold ty1 at p1
    split at p1
    · rename_i d hd
      split at p1
      · rename_i ht
        refine ⟨isTy_v ht (S1.rdb r1 hd) S1.zh, Z1, ρ1, S1, Post.bind p1 fun vs as ρ2 Z2 H2 e2 S2 r2 p2 => ?_⟩
        unfold met1 at p2
        split at p2
        · rename_i d' ds hd' hds
          split at p2
          · rename_i R hR
            exact hf x d' vs ds R Z2 H2 Q S2.zh (S2.rdb (r1.mono (ρ' := ρ2) (H' := H2) e2) hd') (S2.rdbs r2 hds) hR fun v Z' H' g h => p2.fin S2 g h
          · exact p2.elim
        · exact p2.elim
      · exact p1.elim
    · exact p1.elim
theorem rd_bm0 (pa : PlainAttrs T) (slot : Slot T name id) (hty : typeOf (.builtin id) = pure (.type "method_descriptor")) (hm : MtR X id r) (hf : MetS X.K r f) (ho : ED X G B o oo)
    (hbase : attributeBase o name X.env (eval o X.env) = eval o X.env := by rfl) (hline : (apos.endLine == cpos.line) = true := by rfl) : RD X G B (.Call (.Attribute o name apos) [] [] cpos) (oBM0 T f oo) :=
  pe_imp (pe_bm0 pa slot hty hm ho hbase hline) fun σ H Q w => run_imp w fun x va ρ1 Z1 H1 S1 r1 p1 => by
    unfold ty1 at p1
    split at p1
    · rename_i d hd
      split at p1
      · rename_i ht
        refine ⟨isTy_v ht (S1.rdb r1 hd) S1.zh, ?_⟩
        unfold met1 at p1
        split at p1
        · rename_i d' ds hd' hds
          split at p1
          · rename_i R hR
            cases hds
            exact hf x d' [] [] R Z1 H1 Q S1.zh (S1.rdb r1 hd') .nil hR fun v Z' H' g h => p1.fin S1 g h
          · exact p1.elim
        · exact p1.elim
      · exact p1.elim
    · exact p1.elim
end
end Ow
namespace Ow
open PySem L2
theorem Paired.one {α β : Type} {G : α → β → Prop} {vs : List α} {d : β} (h : Paired G vs [d]) : ∃ v, vs = [v] ∧ G v d := by
  cases h with
  | cons h1 h2 => cases h2; exact ⟨_, rfl, h1⟩
theorem Paired.two {α β : Type} {G : α → β → Prop} {vs : List α} {d e : β} (h : Paired G vs [d, e]) : ∃ v w, vs = [v, w] ∧ G v d ∧ G w e := by
  cases h with
  | cons h1 h2 => obtain ⟨w, rfl, h3⟩ := Paired.one h2; exact ⟨_, _, rfl, h1, h3⟩
def intsOf : List D → Option (List Int)
  | [] => some []
  | .int i :: r => (intsOf r).map (i :: ·)
  | _ :: _ => none
def strsOf : List D → Option (List Str)
  | [] => some []
  | .str i :: r => (strsOf r).map (i :: ·)
  | _ :: _ => none
def boolsOf : List D → Option (List Bool)
  | [] => some []
  | .bool i :: r => (boolsOf r).map (i :: ·)
  | _ :: _ => none
theorem intsOf_eq : ∀ {ds : List D} {ns : List Int}, intsOf ds = some ns → ds = ns.map PyData.int
  | [], _, h => by cases h; rfl
  | d :: r, ns, h => by
    unfold intsOf at h
    split at h
    · rename_i e; cases e
    · rename_i i r' e
      cases e
      cases q : intsOf r with
      | none => rw [q] at h; cases h
      | some ms => rw [q] at h; cases h; rw [intsOf_eq q]; rfl
    · cases h
theorem strsOf_eq : ∀ {ds : List D} {ns : List Str}, strsOf ds = some ns → ds = ns.map PyData.str
  | [], _, h => by cases h; rfl
  | d :: r, ns, h => by
    unfold strsOf at h
    split at h
    · rename_i e; cases e
    · rename_i i r' e
      cases e
      cases q : strsOf r with
      | none => rw [q] at h; cases h
      | some ms => rw [q] at h; cases h; rw [strsOf_eq q]; rfl
    · cases h
theorem boolsOf_eq : ∀ {ds : List D} {ns : List Bool}, boolsOf ds = some ns → ds = ns.map PyData.bool
  | [], _, h => by cases h; rfl
  | d :: r, ns, h => by
    unfold boolsOf at h
    split at h
    · rename_i e; cases e
    · rename_i i r' e
      cases e
      cases q : boolsOf r with
      | none => rw [q] at h; cases h
      | some ms => rw [q] at h; cases h; rw [boolsOf_eq q]; rfl
    · cases h
@[simp] theorem intsOf_map (ns : List Int) : intsOf (ns.map PyData.int) = some ns := by
  induction ns with
  | nil => rfl
  | cons n r ih => simp [intsOf, ih]
@[simp] theorem strsOf_map (ns : List Str) : strsOf (ns.map PyData.str) = some ns := by
  induction ns with
  | nil => rfl
  | cons n r ih => simp [strsOf, ih]
@[simp] theorem boolsOf_map (ns : List Bool) : boolsOf (ns.map PyData.bool) = some ns := by
  induction ns with
  | nil => rfl
  | cons n r ih => simp [boolsOf, ih]
/-! ### len -/
def fLen : D → Option Nat
  | .str x => if x.length ≤ 16000000 then some x.length else none
  | .list xs => some xs.length
  | .tuple xs => some xs.length
  | .dict [(.none, .list xs)] => some xs.length
  | .dict [(.bool true, .tuple xs)] => some xs.length
  | _ => none
def len1 (a : Va) (ρ : Rho) : M Rs := match rdV ρ a with
  | some d => match fLen d with
    | some n => .ok (.pu (.int n)) ρ
    | none => .st
  | none => match a with
    | .rf i => match ρ[i]? with
      | some (.ow _ (.dk kvs)) => .ok (.pu (.int kvs.length)) ρ
      | _ => .st
    | _ => .st
def oLen (o : O Va) : O Rs := fun ρ => (o ρ).bind len1
@[simp] theorem len1_pu (d : D) (ρ : Rho) : len1 (.pu d) ρ = match fLen d with | some n => .ok (.pu (.int n)) ρ | none => .st := by
  unfold len1
  rw [rdV_pu]
theorem CallR.or {X : Cx} {f : Value} {r r' : List V → Hp → VK → Prop} (h : CallR X f r) (h' : CallR X f r') : CallR X f (fun x H Q => r x H Q ∨ r' x H Q) :=
  fun pins s σ H xs us Q I q w => w.elim (h pins s σ H xs us Q I q) (h' pins s σ H xs us Q I q)
section
variable {X : Cx} {G : Gm} {B : Wish} {p pos : Pos} {e e2 : Expr} {es : List Expr} {oa ob : O Va}
theorem rd_len (hg : Gl X "len") (hm : X.mg "len" = none) (ha : ED X G B e oa) (hs : starEach [e] X.env = (false, eval e X.env) :: starEach [] X.env := by rfl) : RD X G B (.Call (.Name "len" p) [e] [] pos) (oLen oa) :=
  pe_imp (pe_callB (CallR.or call_len call_lenD) hg hm PySem.boot_len (pa_cons ha pa_nil hs) (he := hs) (hpl := rfl)) fun σ H Q w => run_imp w fun x va ρ1 Z1 H1 S1 r1 p1 => by
    unfold len1 at p1
    split at p1
    · rename_i d hd
      have rd := S1.rdb r1 hd
      split at p1
      · rename_i n hn
        refine .inl ⟨x, n, rfl, ?_, p1.fin S1 (.refl S1.zh) (.int _)⟩
        unfold fLen at hn
        split at hn
        · split at hn
          · cases hn; rw [rd.str]; exact ⟨lim_le ‹_›, rfl⟩
          · cases hn
        · cases hn
          obtain ⟨b, vs, rfl, hb, rb⟩ := rd.list S1.zh
          exact .inl ⟨vs, SqL.of hb, rb.length.symm⟩
        · cases hn
          obtain ⟨b, vs, rfl, hb, rb, _⟩ := rd.tup S1.zh
          exact .inr ⟨vs, SqT.of hb, rb.length.symm⟩
        · cases hn
          obtain ⟨b, vs, rfl, hb, rb⟩ := rd.scr S1.zh
          exact .inl ⟨vs, hb, rb.length.symm⟩
        · cases hn
          obtain ⟨b, vs, rfl, hb, rb⟩ := rd.kon S1.zh
          exact .inr ⟨vs, hb, rb.length.symm⟩
        · cases hn
      · exact p1.elim
    · split at p1
      · rename_i i _
        split at p1
        · rename_i pn kvs hr
          obtain ⟨b, o, q1, ho, r, _⟩ := S1.ow i _ _ hr
          have q' : σ[i]? = some (some x) := r1
          rw [q1] at q'; cases q'
          cases o with
          | dK vs =>
            refine .inr ⟨b, vs, rfl, ho, ?_⟩
            have hl : vs.length = kvs.length := Paired.length (show KvR X.K Z1 vs kvs from r)
            rw [hl]
            exact p1.fin S1 (.refl S1.zh) (.int _)
          | _ => exact r.elim
        · exact p1.elim
      · exact p1.elim
end
/-! ### list(..), tuple(..) -/
def fList : List D → Option Rs
  | [.list xs] => some (.nw (.li xs))
  | [.tuple xs] => some (.nw (.li xs))
  | [.dict [(.none, .list xs)]] => some (.nw (.li xs))
  | _ => none
def fTuple : List D → Option Rs
  | [.list xs] => some (.pu (.tuple xs))
  | [.tuple xs] => some (.pu (.tuple xs))
  | _ => none
def fInt1 : List D → Option Rs
  | [.int i] => some (.pu (.int i))
  | [.bool b] => some (.pu (.int (if b then 1 else 0)))
  | _ => none
def fAbs : List D → Option Rs
  | [.int i] => some (.pu (.int (if i < 0 then -i else i)))
  | _ => none
def fMax2 : List D → Option Rs
  | [.int i, .int j] => some (.pu (.int (if j > i then j else i)))
  | _ => none
def fMin2 : List D → Option Rs
  | [.int i, .int j] => some (.pu (.int (if j < i then j else i)))
  | _ => none
def fStr1 : List D → Option Rs
  | [.int i] => if i.natAbs.log2 < 1920 then some (.pu (.str (toString i : String))) else none
  | _ => none
def maxI : List Int → Int
  | [] => 0
  | [x] => x
  | x :: r => if maxI r > x then maxI r else x
def minI : List Int → Int
  | [] => 0
  | [x] => x
  | x :: r => if minI r < x then minI r else x
def fSum : List D → Option Rs
  | [.list xs] => (intsOf xs).map fun ns => .pu (.int ns.sum)
  | _ => none
def fAll : List D → Option Rs
  | [.list xs] => (boolsOf xs).map fun ns => .pu (.bool (ns.all id))
  | _ => none
def fAny : List D → Option Rs
  | [.list xs] => (boolsOf xs).map fun ns => .pu (.bool (ns.any id))
  | _ => none
def fMax1 : List D → Option Rs
  | [.list xs] => match intsOf xs with
    | some (n :: ns) => some (.pu (.int (maxI (n :: ns))))
    | _ => none
  | _ => none
def fMin1 : List D → Option Rs
  | [.list xs] => match intsOf xs with
    | some (n :: ns) => some (.pu (.int (minI (n :: ns))))
    | _ => none
  | _ => none
def sortI (ns : List Int) : List Int := ns.mergeSort (fun a b => decide (a ≤ b))
def fSorted : List D → Option Rs
  | [.list xs] => (intsOf xs).map fun ns => .nw (.li ((sortI ns).map PyData.int))
  | _ => none
theorem maxI_ge : ∀ {ns : List Int}, ∀ y ∈ ns, y ≤ maxI ns
  | [x], y, h => by simp at h; simp [maxI, h]
  | x :: z :: r, y, h => by
    have ih := maxI_ge (ns := z :: r)
    unfold maxI
    rcases List.mem_cons.mp h with h | h
    · subst h; split <;> omega
    · have := ih y h; split <;> omega
theorem maxI_mem : ∀ {ns : List Int}, ns ≠ [] → maxI ns ∈ ns
  | [x], _ => by simp [maxI]
  | x :: z :: r, _ => by
    have ih := maxI_mem (ns := z :: r) (by simp)
    unfold maxI
    split
    · exact List.mem_cons_of_mem _ ih
    · exact List.mem_cons_self
theorem minI_le : ∀ {ns : List Int}, ∀ y ∈ ns, minI ns ≤ y
  | [x], y, h => by simp at h; simp [minI, h]
  | x :: z :: r, y, h => by
    have ih := minI_le (ns := z :: r)
    unfold minI
    rcases List.mem_cons.mp h with h | h
    · subst h; split <;> omega
    · have := ih y h; split <;> omega
theorem minI_mem : ∀ {ns : List Int}, ns ≠ [] → minI ns ∈ ns
  | [x], _ => by simp [minI]
  | x :: z :: r, _ => by
    have ih := minI_mem (ns := z :: r) (by simp)
    unfold minI
    split
    · exact List.mem_cons_of_mem _ ih
    · exact List.mem_cons_self
theorem sorted_unique : ∀ {l m : List Int}, l.Perm m → l.Pairwise (· ≤ ·) → m.Pairwise (· ≤ ·) → l = m
  | [], m, p, _, _ => by rw [List.nil_perm.mp p]
  | x :: l, [], p, _, _ => by have := p.length_eq; simp at this
  | x :: l, y :: m, p, h1, h2 => by
    have hx : x ∈ y :: m := p.mem_iff.mp List.mem_cons_self
    have hy : y ∈ x :: l := p.mem_iff.mpr List.mem_cons_self
    have e : x = y := by
      rcases List.mem_cons.mp hx with e | hx'
      · exact e
      · rcases List.mem_cons.mp hy with e | hy'
        · exact e.symm
        · have a := (List.pairwise_cons.mp h1).1 y hy'
          have b := (List.pairwise_cons.mp h2).1 x hx'
          omega
    subst e
    rw [sorted_unique (List.Perm.cons_inv p) (List.pairwise_cons.mp h1).2 (List.pairwise_cons.mp h2).2]
theorem sortI_perm (ns : List Int) : (sortI ns).Perm ns := List.mergeSort_perm ns _
theorem sortI_sorted (ns : List Int) : (sortI ns).Pairwise (· ≤ ·) := by
  have h := List.pairwise_mergeSort (le := fun (a b : Int) => decide (a ≤ b)) (fun a b c h1 h2 => by simp at *; omega) (fun a b => by simp; omega) ns
  exact h.imp fun h => of_decide_eq_true h
section
variable {K : PySem.W.Frag}
theorem callS_list : CallS K (fun xs H Q => ∃ p ys, xs = [.ref p] ∧ (SqL K H p ys ∨ SqT K H p ys) ∧ ∀ l, H l = none → Q (.ref l) (upd H l (.lst ys))) fList := by
  intro vs ds R Z H Q e r hf k
  unfold fList at hf
  split at hf
  · cases hf
    obtain ⟨v, rfl, r1⟩ := Paired.one r
    obtain ⟨b, ws, rfl, hb, rb⟩ := r1.list e
    exact ⟨b, ws, rfl, .inl (SqL.of hb), fun l hl => k _ Z _ (.loose e hl _) ⟨l, _, rfl, hl, none_of_same e hl, upd_same, rb⟩⟩
  · cases hf
    obtain ⟨v, rfl, r1⟩ := Paired.one r
    obtain ⟨b, ws, rfl, hb, rb, _⟩ := r1.tup e
    exact ⟨b, ws, rfl, .inr (SqT.of hb), fun l hl => k _ Z _ (.loose e hl _) ⟨l, _, rfl, hl, none_of_same e hl, upd_same, rb⟩⟩
  · cases hf
    obtain ⟨v, rfl, r1⟩ := Paired.one r
    obtain ⟨b, ws, rfl, hb, rb⟩ := r1.scr e
    exact ⟨b, ws, rfl, .inl hb, fun l hl => k _ Z _ (.loose e hl _) ⟨l, _, rfl, hl, none_of_same e hl, upd_same, rb⟩⟩
  · cases hf
theorem callS_tuple : CallS K (fun xs H Q => ∃ p ys, xs = [.ref p] ∧ ((SqL K H p ys ∧ ∀ l, H l = none → Q (.ref l) (upd H l (.tup ys))) ∨ (SqT K H p ys ∧ Q (.ref p) H))) fTuple := by
  intro vs ds R Z H Q e r hf k
  unfold fTuple at hf
  split at hf
  · cases hf
    obtain ⟨v, rfl, r1⟩ := Paired.one r
    obtain ⟨b, ws, rfl, hb, rb⟩ := r1.list e
    refine ⟨b, ws, rfl, .inl ⟨SqL.of hb, fun l hl => ?_⟩⟩
    have g := Grow.still e hl (.tup ws)
    exact k _ _ _ g (.tup upd_same (RpAll.mono rb g.z))
  · cases hf
    obtain ⟨v, rfl, r1⟩ := Paired.one r
    obtain ⟨b, ws, rfl, hb, rb, q⟩ := r1.tup e
    exact ⟨b, ws, rfl, .inr ⟨SqT.of hb, k _ Z H (.refl e) q⟩⟩
  · cases hf
theorem callS_int : CallS K (fun xs H Q => (∃ i, xs = [.int i] ∧ Q (.int i) H) ∨ ∃ k, xs = [.bl k] ∧ Q (.int (if k then 1 else 0)) H) fInt1 := by
  intro vs ds R Z H Q e r hf k
  unfold fInt1 at hf
  split at hf
  · cases hf
    obtain ⟨v, rfl, r1⟩ := Paired.one r
    rw [r1.int]
    exact .inl ⟨_, rfl, k _ Z H (.refl e) (.int _)⟩
  · cases hf
    obtain ⟨v, rfl, r1⟩ := Paired.one r
    rw [r1.bl]
    exact .inr ⟨_, rfl, k _ Z H (.refl e) (.int _)⟩
  · cases hf
theorem callS_abs : CallS K (fun xs H Q => ∃ i, xs = [.int i] ∧ Q (.int (if i < 0 then -i else i)) H) fAbs := by
  intro vs ds R Z H Q e r hf k
  unfold fAbs at hf
  split at hf
  · cases hf
    obtain ⟨v, rfl, r1⟩ := Paired.one r
    rw [r1.int]
    exact ⟨_, rfl, k _ Z H (.refl e) (.int _)⟩
  · cases hf
theorem callS_str : CallS K (fun xs H Q => ∃ i, xs = [.int i] ∧ i.natAbs.log2 < 1920 ∧ Q (.str (toString i : String)) H) fStr1 := by
  intro vs ds R Z H Q e r hf k
  unfold fStr1 at hf
  split at hf
  · split at hf
    · cases hf
      obtain ⟨v, rfl, r1⟩ := Paired.one r
      rw [r1.int]
      exact ⟨_, rfl, ‹_›, k _ Z H (.refl e) (.str _)⟩
    · cases hf
  · cases hf
theorem callS_max2 : CallS K (fun xs H Q => ∃ i j, xs = [.int i, .int j] ∧ Q (.int (if j > i then j else i)) H) fMax2 := by
  intro vs ds R Z H Q e r hf k
  unfold fMax2 at hf
  split at hf
  · cases hf
    obtain ⟨v, w, rfl, r1, r2⟩ := Paired.two r
    rw [r1.int, r2.int]
    exact ⟨_, _, rfl, k _ Z H (.refl e) (.int _)⟩
  · cases hf
theorem callS_min2 : CallS K (fun xs H Q => ∃ i j, xs = [.int i, .int j] ∧ Q (.int (if j < i then j else i)) H) fMin2 := by
  intro vs ds R Z H Q e r hf k
  unfold fMin2 at hf
  split at hf
  · cases hf
    obtain ⟨v, w, rfl, r1, r2⟩ := Paired.two r
    rw [r1.int, r2.int]
    exact ⟨_, _, rfl, k _ Z H (.refl e) (.int _)⟩
  · cases hf
theorem ints_arg {Z H : Hp} {vs : List V} {xs : List D} {ns : List Int} (e : Same Z H) (r : Paired (Rdb K Z H) vs [.list xs]) (h : intsOf xs = some ns) : ∃ a, vs = [.ref a] ∧ SqL K H a (ns.map V.int) := by
  obtain ⟨v, rfl, r1⟩ := Paired.one r
  obtain ⟨b, ws, rfl, hb, rb⟩ := r1.list e
  rw [intsOf_eq h] at rb
  rw [rb.of_ints] at hb
  exact ⟨b, rfl, SqL.of hb⟩
theorem bools_arg {Z H : Hp} {vs : List V} {xs : List D} {ns : List Bool} (e : Same Z H) (r : Paired (Rdb K Z H) vs [.list xs]) (h : boolsOf xs = some ns) : ∃ a, vs = [.ref a] ∧ SqL K H a (ns.map V.bl) := by
  obtain ⟨v, rfl, r1⟩ := Paired.one r
  obtain ⟨b, ws, rfl, hb, rb⟩ := r1.list e
  rw [boolsOf_eq h] at rb
  rw [rb.of_bools] at hb
  exact ⟨b, rfl, SqL.of hb⟩
theorem callS_sum : CallS K (rSum K) fSum := by
  intro vs ds R Z H Q e r hf k
  unfold fSum at hf
  split at hf
  · rename_i xs
    cases q : intsOf xs with
    | none => rw [q] at hf; cases hf
    | some ns =>
      rw [q] at hf; cases hf
      obtain ⟨a, rfl, ha⟩ := ints_arg e r q
      exact ⟨a, ns, rfl, ha, k _ Z H (.refl e) (.int _)⟩
  · cases hf
theorem callS_all : CallS K (rAll K) fAll := by
  intro vs ds R Z H Q e r hf k
  unfold fAll at hf
  split at hf
  · rename_i xs
    cases q : boolsOf xs with
    | none => rw [q] at hf; cases hf
    | some ns =>
      rw [q] at hf; cases hf
      obtain ⟨a, rfl, ha⟩ := bools_arg e r q
      exact ⟨a, ns, rfl, ha, k _ Z H (.refl e) (.bl _)⟩
  · cases hf
theorem callS_any : CallS K (rAny K) fAny := by
  intro vs ds R Z H Q e r hf k
  unfold fAny at hf
  split at hf
  · rename_i xs
    cases q : boolsOf xs with
    | none => rw [q] at hf; cases hf
    | some ns =>
      rw [q] at hf; cases hf
      obtain ⟨a, rfl, ha⟩ := bools_arg e r q
      exact ⟨a, ns, rfl, ha, k _ Z H (.refl e) (.bl _)⟩
  · cases hf
theorem callS_max1 : CallS K (rMax K) fMax1 := by
  intro vs ds R Z H Q e r hf k
  unfold fMax1 at hf
  split at hf
  · rename_i xs
    split at hf
    · rename_i n ns q
      cases hf
      obtain ⟨a, rfl, ha⟩ := ints_arg e r q
      refine ⟨a, n :: ns, rfl, ha, by simp, fun m hm hle => ?_⟩
      have e1 : m = maxI (n :: ns) := by
        have h1 := maxI_ge m hm
        have h2 := hle _ (maxI_mem (ns := n :: ns) (by simp))
        omega
      rw [e1]
      exact k _ Z H (.refl e) (.int _)
    · cases hf
  · cases hf
theorem callS_min1 : CallS K (rMin K) fMin1 := by
  intro vs ds R Z H Q e r hf k
  unfold fMin1 at hf
  split at hf
  · rename_i xs
    split at hf
    · rename_i n ns q
      cases hf
      obtain ⟨a, rfl, ha⟩ := ints_arg e r q
      refine ⟨a, n :: ns, rfl, ha, by simp, fun m hm hle => ?_⟩
      have e1 : m = minI (n :: ns) := by
        have h1 := minI_le m hm
        have h2 := hle _ (minI_mem (ns := n :: ns) (by simp))
        omega
      rw [e1]
      exact k _ Z H (.refl e) (.int _)
    · cases hf
  · cases hf
theorem callS_sorted : CallS K (rSortedI K) fSorted := by
  intro vs ds R Z H Q e r hf k
  unfold fSorted at hf
  split at hf
  · rename_i xs
    cases q : intsOf xs with
    | none => rw [q] at hf; cases hf
    | some ns =>
      rw [q] at hf; cases hf
      obtain ⟨a, rfl, ha⟩ := ints_arg e r q
      refine ⟨a, ns, rfl, ha, fun ms p pm so hp => ?_⟩
      have e1 : ms = sortI ns := sorted_unique (pm.trans (sortI_perm ns).symm) so (sortI_sorted ns)
      rw [e1]
      exact k _ Z _ (.loose e hp _) ⟨p, _, rfl, hp, none_of_same e hp, upd_same, .ints _⟩
  · cases hf
end
/-! ### texts -/
def fJoin : D → List D → Option Rs
  | .str a, [.list xs] => match strsOf xs with
    | some ys => if (ys.map (·.length)).sum + ys.length * a.length ≤ 16000000 then some (.pu (.str (Txt.join a ys))) else none
    | none => none
  | .str a, [.tuple xs] => match strsOf xs with
    | some ys => if (ys.map (·.length)).sum + ys.length * a.length ≤ 16000000 then some (.pu (.str (Txt.join a ys))) else none
    | none => none
  | _, _ => none
def fSplit : D → List D → Option Rs
  | .str a, [.str b] => if (b.length == 0) = false ∧ a.length + 2 ≤ 16000000 then some (.nw (.li ((Txt.split a b).map PyData.str))) else none
  | _, _ => none
section
variable {K : PySem.W.Frag}
theorem metS_join : MetS K (fun x xs H Q => ∃ a p, ∃ ys : List Str, x = .str a ∧ xs = [.ref p] ∧ (SqL K H p (ys.map V.str) ∨ SqT K H p (ys.map V.str)) ∧
    (ys.map (·.length)).sum + ys.length * a.length ≤ 16777216 ∧ Q (.str (Txt.join a ys)) H) fJoin := by
  intro x d vs ds R Z H Q e rx r hf k
  unfold fJoin at hf
  split at hf
  · rename_i a xs
    split at hf
    · rename_i ys hy
      split at hf
      · cases hf
        obtain ⟨v, rfl, r1⟩ := Paired.one r
        obtain ⟨b, ws, rfl, hb, rb⟩ := r1.list e
        rw [strsOf_eq hy] at rb
        rw [rb.of_strs] at hb
        exact ⟨a, b, ys, rx.str, rfl, .inl (SqL.of hb), by omega, k _ Z H (.refl e) (.str _)⟩
      · cases hf
    · cases hf
  · rename_i a xs
    split at hf
    · rename_i ys hy
      split at hf
      · cases hf
        obtain ⟨v, rfl, r1⟩ := Paired.one r
        obtain ⟨b, ws, rfl, hb, rb, _⟩ := r1.tup e
        rw [strsOf_eq hy] at rb
        rw [rb.of_strs] at hb
        exact ⟨a, b, ys, rx.str, rfl, .inr (SqT.of hb), by omega, k _ Z H (.refl e) (.str _)⟩
      · cases hf
    · cases hf
  · cases hf
theorem metS_split : MetS K (fun x xs H Q => ∃ a b, x = .str a ∧ xs = [.str b] ∧ (b.length == 0) = false ∧ a.length + 2 ≤ sizeLine ∧ rNewStrs (Txt.split a b) H Q) fSplit := by
  intro x d vs ds R Z H Q e rx r hf k
  unfold fSplit at hf
  split at hf
  · rename_i a b
    split at hf
    · rename_i h
      cases hf
      obtain ⟨v, rfl, r1⟩ := Paired.one r
      rw [rx.str, r1.str]
      exact ⟨a, b, rfl, rfl, h.1, lim_le h.2, fun p hp => k _ Z _ (.loose e hp _) ⟨p, _, rfl, hp, none_of_same e hp, upd_same, .strs _⟩⟩
    · cases hf
  · cases hf
end
end Ow
namespace Ow
open PySem L2
/-! ### statements -/
inductive Mo where
  | st
  | nx (ρ : Rho)
  | rt (r : Rs) (ρ : Rho)
  | bk (ρ : Rho)
  | ct (ρ : Rho)
  | ex (x : Xn) (ρ : Rho)
abbrev Os := Rho → Mo
def M.bindS {α : Type} (m : M α) (f : α → Rho → Mo) : Mo := match m with
  | .st => .st
  | .ok a ρ => f a ρ
  | .ex x ρ => .ex x ρ
@[simp] theorem M.bindS_ok {α : Type} (a : α) (ρ : Rho) (f : α → Rho → Mo) : (M.ok a ρ).bindS f = f a ρ := rfl
@[simp] theorem M.bindS_st {α : Type} (f : α → Rho → Mo) : (M.st : M α).bindS f = .st := rfl
@[simp] theorem M.bindS_ex {α : Type} (x : Xn) (ρ : Rho) (f : α → Rho → Mo) : (M.ex x ρ : M α).bindS f = .ex x ρ := rfl
def Mo.then (m : Mo) (f : Os) : Mo := match m with
  | .nx ρ => f ρ
  | m => m
@[simp] theorem Mo.then_nx (ρ : Rho) (f : Os) : (Mo.nx ρ).then f = f ρ := rfl
@[simp] theorem Mo.then_st (f : Os) : (Mo.st).then f = .st := rfl
@[simp] theorem Mo.then_rt (r : Rs) (ρ : Rho) (f : Os) : (Mo.rt r ρ).then f = .rt r ρ := rfl
@[simp] theorem Mo.then_bk (ρ : Rho) (f : Os) : (Mo.bk ρ).then f = .bk ρ := rfl
@[simp] theorem Mo.then_ct (ρ : Rho) (f : Os) : (Mo.ct ρ).then f = .ct ρ := rfl
@[simp] theorem Mo.then_ex (x : Xn) (ρ : Rho) (f : Os) : (Mo.ex x ρ).then f = .ex x ρ := rfl
section
variable (K : PySem.W.Frag) (G : Gm) (B : Wish)
def PostS (Z : Hp) (m : Mo) (D : Ends) : Prop := match m with
  | .st => False
  | .nx ρ => ∀ σ Z' H', Same Z Z' → Sim K G Z' ρ σ H' → D.nx σ H'
  | .bk ρ => ∀ σ Z' H', Same Z Z' → Sim K G Z' ρ σ H' → D.bk σ H'
  | .ct ρ => ∀ σ Z' H', Same Z Z' → Sim K G Z' ρ σ H' → D.ct σ H'
  | .rt r ρ => ∀ v σ Z' H', Same Z Z' → Sim K G Z' ρ σ H' → RsR K G Z' ρ σ H' v r → D.rt v H'
  | .ex x ρ => ∀ σ Z' H', Same Z Z' → Sim K G Z' ρ σ H' → B x ρ Z' σ H'
def RunS (o : Os) : TS := fun D σ H => ∃ Z ρ, Sim K G Z ρ σ H ∧ PostS K G B Z (o ρ) D
end
def SD (X : Cx) (G : Gm) (B : Wish) (st : Stmt) (o : Os) : Prop := PS X st (RunS X.K G B o)
def BD (X : Cx) (G : Gm) (B : Wish) (st : List Stmt) (o : Os) : Prop := PSs X st (RunS X.K G B o)
theorem PostS.mono {K : PySem.W.Frag} {G : Gm} {B : Wish} {Z Z1 : Hp} {m : Mo} {D : Ends} (h : PostS K G B Z m D) (e : Same Z Z1) : PostS K G B Z1 m D := by
  cases m with
  | st => exact h
  | nx ρ => exact fun σ Z' H' e' => h σ Z' H' (e.trans e')
  | bk ρ => exact fun σ Z' H' e' => h σ Z' H' (e.trans e')
  | ct ρ => exact fun σ Z' H' e' => h σ Z' H' (e.trans e')
  | rt r ρ => exact fun v σ Z' H' e' => h v σ Z' H' (e.trans e')
  | ex x ρ => exact fun σ Z' H' e' => h σ Z' H' (e.trans e')
theorem PostS.bind {K : PySem.W.Frag} {G : Gm} {B : Wish} {α β : Type} {R : Rel α β} {σ : St} {Z : Hp} {m : M α} {f : α → Rho → Mo} {D : Ends} {C : β → Hp → Prop} (h : PostS K G B Z (m.bindS f) D)
    (k : ∀ x a ρ1 Z1 H1, Same Z Z1 → Sim K G Z1 ρ1 σ H1 → R Z1 ρ1 σ H1 x a → PostS K G B Z1 (f a ρ1) D → C x H1) : Post K G B R σ Z m C := by
  cases m with
  | st => exact h
  | ex x ρ => exact fun Z' H' e S => h σ Z' H' e S
  | ok a ρ1 =>
    intro v Z' H' e S r
    exact k v a ρ1 Z' H' e S r (PostS.mono (m := f a ρ1) h e)
theorem runS_bind {K : PySem.W.Frag} {G : Gm} {B : Wish} {α β : Type} {R : Rel α β} {σ : St} {H : Hp} {o : O α} {f : α → Rho → Mo} {D : Ends} {C : β → Hp → Prop} (h : RunS K G B (fun ρ => (o ρ).bindS f) D σ H)
    (k : ∀ x a ρ1 Z1 H1, Sim K G Z1 ρ1 σ H1 → R Z1 ρ1 σ H1 x a → PostS K G B Z1 (f a ρ1) D → C x H1) : Run K G B R o σ H C := by
  obtain ⟨Z, ρ, S, p⟩ := h
  exact ⟨Z, ρ, S, PostS.bind p fun x a ρ1 Z1 H1 _ S1 r p1 => k x a ρ1 Z1 H1 S1 r p1⟩
def oSeq (a b : Os) : Os := fun ρ => (a ρ).then b
def oNext : Os := fun ρ => .nx ρ
def oBreak : Os := fun ρ => .bk ρ
def oCont : Os := fun ρ => .ct ρ
def oDrop {α : Type} (o : O α) : Os := fun ρ => (o ρ).bindS fun _ ρ1 => .nx ρ1
def oRet (o : O Rs) : Os := fun ρ => (o ρ).bindS fun r ρ1 => .rt r ρ1
def oRetN : Os := fun ρ => .rt (.pu .none) ρ
def oRetV (i : Nat) : Os := fun ρ => match ρ[i]? with
  | some (.pu d) => .rt (.pu d) ρ
  | some (.ow false c) => .rt (.nw c) (ρ.set i .no)
  | _ => .st
def oIfS (c : O Bool) (a b : Os) : Os := fun ρ => (c ρ).bindS fun t ρ1 => if t = true then a ρ1 else b ρ1
section
variable {X : Cx} {G : Gm} {B : Wish} {st : Stmt} {rest : List Stmt} {a b : Os} {e c : Expr} {pos : Pos}
theorem seq_post {K : PySem.W.Frag} {Z : Hp} {m : Mo} {b : Os} {D : Ends} (h : PostS K G B Z (m.then b) D) : PostS K G B Z m { D with nx := fun σ H => RunS K G B b D σ H } := by
  cases m with
  | nx ρ => exact fun σ Z' H' e S => ⟨Z', ρ, S, PostS.mono (m := b ρ) h e⟩
  | st => exact h
  | bk ρ => exact h
  | ct ρ => exact h
  | rt r ρ => exact h
  | ex x ρ => exact h
theorem bd_nil : BD X G B [] oNext := pss_imp pss_nil fun D σ H ⟨Z, ρ, S, p⟩ => p σ Z H (.refl _) S
theorem bd_one (h : SD X G B st a) : BD X G B [st] a := pss_one h
theorem bd_cons (h : SD X G B st a) (h' : BD X G B rest b) : BD X G B (st :: rest) (oSeq a b) :=
  pss_imp (pss_cons h h') fun D σ H ⟨Z, ρ, S, p⟩ => ⟨Z, ρ, S, seq_post p⟩
theorem sd_pass : SD X G B (.Pass pos) oNext := ps_imp ps_pass fun D σ H ⟨Z, ρ, S, p⟩ => p σ Z H (.refl _) S
theorem sd_break : SD X G B (.Break pos) oBreak := ps_imp ps_break fun D σ H ⟨Z, ρ, S, p⟩ => p σ Z H (.refl _) S
theorem sd_continue : SD X G B (.Continue pos) oCont := ps_imp ps_continue fun D σ H ⟨Z, ρ, S, p⟩ => p σ Z H (.refl _) S
theorem sd_expr {o : O Va} (h : ED X G B e o) (hs : swapsWith e none pos.line X.env = pure false := by rfl) : SD X G B (.Expr e pos) (oDrop o) :=
  ps_imp (ps_expr h hs) fun D σ H w => runS_bind w fun x r ρ1 Z1 H1 S1 q p1 => p1 σ Z1 H1 (.refl _) S1
theorem sd_exprR {o : O Rs} (h : RD X G B e o) (hs : swapsWith e none pos.line X.env = pure false := by rfl) : SD X G B (.Expr e pos) (oDrop o) :=
  ps_imp (ps_expr h hs) fun D σ H w => runS_bind w fun x r ρ1 Z1 H1 S1 q p1 => p1 σ Z1 H1 (.refl _) S1
theorem sd_ret {o : O Rs} (h : RD X G B e o) : SD X G B (.Return (some e) pos) (oRet o) :=
  ps_imp (ps_ret h) fun D σ H w => runS_bind w fun x r ρ1 Z1 H1 S1 q p1 => p1 x σ Z1 H1 (.refl _) S1 q
theorem sd_retN : SD X G B (.Return none pos) oRetN := ps_imp ps_retN fun D σ H ⟨Z, ρ, S, p⟩ => p .non σ Z H (.refl _) S .non
theorem sd_if {o : O Bool} {as bs : List Stmt} (hc : TD X G B c o) (ha : BD X G B as a) (hb : BD X G B bs b) : SD X G B (.If c as bs pos) (oIfS o a b) :=
  ps_imp (ps_if hc ha hb) fun D σ H w => runS_bind w fun x k ρ1 Z1 H1 S1 q p1 => by
    have q : x = k := q
    subst q
    cases x with
    | true => exact ⟨Z1, ρ1, S1, p1⟩
    | false => exact ⟨Z1, ρ1, S1, p1⟩
theorem Sim.drop {K : PySem.W.Frag} {Z : Hp} {ρ : Rho} {σ : St} {H : Hp} (S : Sim K G Z ρ σ H) {i : Nat} {c : Ct} (h : ρ[i]? = some (Sl.ow false c)) : Sim K G Z (ρ.set i .no) σ H := by
  have hi : i < ρ.length := (List.getElem?_eq_some_iff.mp h).1
  have g : ∀ (j : Nat) s, (ρ.set i .no)[j]? = some s → s ≠ .no → j ≠ i ∧ ρ[j]? = some s := fun j s e n => by
    by_cases hj : j = i
    · subst hj; rw [List.getElem?_set_self hi] at e; cases e; exact absurd rfl n
    · rw [List.getElem?_set_ne (Ne.symm hj)] at e; exact ⟨hj, e⟩
  refine ⟨S.zz, S.zh, S.fr, S.nw, fun j d e => S.pu j d (g j _ e (by simp)).2, fun j p c e => S.ow j p c (g j _ e (by simp)).2, fun j k p q c d n e1 e2 => S.ne j k p q c d n (g j _ e1 (by simp)).2 (g k _ e2 (by simp)).2, fun j x hj => ?_, by rw [List.length_set]; exact S.len, S.lx.frame (fun j xss e => ⟨(g j _ e (by simp)).2, rfl⟩) (fun j k m e => ⟨(g j _ e (by simp)).2, rfl⟩) (.refl _) fun b o f z gn w ho => ⟨ho, z, gn, fun j p c e => w j p c (g j _ e (by simp)).2⟩⟩
  obtain ⟨q, c', hc'⟩ := S.pin j x hj
  refine ⟨q, c', ?_⟩
  rw [List.getElem?_set_ne]
  · exact hc'
  · intro e; subst e; rw [h] at hc'; cases hc'
theorem sd_retV (i : Nat) {x : Str} {p : Pos} (hN : X.N[i]? = some x := by rfl) (hv : Vis X.env.scope x := by first | exact Or.inl rfl | exact Or.inr (Or.inl rfl) | exact Or.inr (Or.inr rfl)) (hd : (x == ("__debug__" : Str)) = false := by decide)
    (hcd : (x == ("__classdict__" : Str)) = false := by decide) : SD X G B (.Return (some (.Name x p)) pos) (oRetV i) := by
  refine ps_imp (ps_ret (pe_var (i := i) hN hv hd hcd)) ?_
  rintro D σ H ⟨Z, ρ, S, p⟩
  unfold oRetV at p
  split at p
  · rename_i d h
    obtain ⟨v, q, r⟩ := S.pu i d h
    exact ⟨v, q, p v σ Z H (.refl _) S r⟩
  · rename_i c h
    obtain ⟨a, o, q, ho, r, z, _, n⟩ := S.ow i _ c h
    refine ⟨_, q, p _ σ Z H (.refl _) (S.drop h) ⟨a, o, rfl, ho, r, z, n rfl, fun j b c' hj q' => ?_, fun f => ?_⟩⟩
    rotate_left
    · obtain ⟨j, xss, a', bs, f1, f2, f3, f4⟩ := f
      have hi : i < ρ.length := (List.getElem?_eq_some_iff.mp h).1
      by_cases hj' : j = i
      · subst hj'; rw [List.getElem?_set_self hi] at f1; cases f1
      · rw [List.getElem?_set_ne (Ne.symm hj')] at f1
        exact (S.lx.live ⟨j, xss, a', bs, f1, f2, f3, f4⟩).2.2.2 i _ _ h q
    have hi : i < ρ.length := (List.getElem?_eq_some_iff.mp h).1
    by_cases hj' : j = i
    · subst hj'; rw [List.getElem?_set_self hi] at hj; cases hj
    · rw [List.getElem?_set_ne (Ne.symm hj')] at hj
      exact S.ne j i _ _ _ _ hj' hj h (q'.trans q.symm)
  · exact p.elim
end
/-! ### stores to names -/
def setSl (ρ : Rho) (i : Nat) (s : Sl) : Option Rho := match ρ[i]? with
  | some (.ow true _) => none
  | some _ => some (ρ.set i s)
  | none => none
section
variable {K : PySem.W.Frag} {G : Gm} {Z : Hp} {ρ ρ' : Rho} {σ : St} {H : Hp} {i : Nat} {v : V}
theorem Sim.put (S : Sim K G Z ρ σ H) {s : Sl} (h : setSl ρ i s = some ρ') (hs : match s with
      | .no => True
      | .pu d => Rp K Z v d
      | .ow p c => p = false ∧ ∃ a o, v = V.ref a ∧ H a = some o ∧ CtR K Z o c ∧ Z a = none ∧ G.H0 a = none ∧ NewA ρ σ H a
      | .ll _ => False
      | .al _ _ => False) : Sim K G Z ρ' (σ.set i (some v)) H := by
  unfold setSl at h
  split at h
  · cases h
  · rename_i s0 hp h0
    cases h
    have hi : i < ρ.length := (List.getElem?_eq_some_iff.mp h0).1
    have hi' : i < σ.length := by rw [← S.len]; exact hi
    have nop : ∀ c, ρ[i]? ≠ some (Sl.ow true c) := fun c e => by rw [h0] at e; cases e; exact hp c rfl
    have g : ∀ (j : Nat) t, (ρ.set i s)[j]? = some t → (j = i ∧ t = s) ∨ (j ≠ i ∧ ρ[j]? = some t) := fun j t e => by
      by_cases hj : j = i
      · subst hj; rw [List.getElem?_set_self hi] at e; cases e; exact .inl ⟨rfl, rfl⟩
      · rw [List.getElem?_set_ne (Ne.symm hj)] at e; exact .inr ⟨hj, e⟩
    have gs : ∀ j : Nat, j ≠ i → (σ.set i (some v))[j]? = σ[j]? := fun j hj => by rw [List.getElem?_set_ne (Ne.symm hj)]
    have gi : (σ.set i (some v))[i]? = some (some v) := List.getElem?_set_self hi'
    refine ⟨S.zz, S.zh, S.fr, S.nw, fun j d e => ?_, fun j p c e => ?_, fun j k p q c d n e1 e2 => ?_, fun j x hj => ?_, by rw [List.length_set, List.length_set]; exact S.len, S.lx.frame (fun j xss e => ?_) (fun j k m e => ?_) (.refl _) fun b o f z gn w ho => ⟨ho, z, gn, fun j p c e => ?_⟩⟩
    · rcases g j _ e with ⟨rfl, rfl⟩ | ⟨hj, e⟩
      · exact ⟨v, gi, hs⟩
      · rw [gs j hj]; exact S.pu j d e
    · rcases g j _ e with ⟨rfl, rfl⟩ | ⟨hj, e⟩
      · obtain ⟨rfl, a, o, rfl, ho, r, z, n, _⟩ := hs
        exact ⟨a, o, gi, ho, r, z, (fun q => by cases q), fun _ => n⟩
      · rw [gs j hj]; exact S.ow j p c e
    · rcases g j _ e1 with ⟨rfl, rfl⟩ | ⟨hj, e1'⟩
      · rcases g k _ e2 with ⟨rfl, _⟩ | ⟨hk, e2'⟩
        · exact absurd rfl n
        · obtain ⟨_, a, o, rfl, _, _, _, _, nn⟩ := hs
          rw [gi, gs k hk]
          exact fun e => nn.1 k q d e2' e.symm
      · rcases g k _ e2 with ⟨rfl, rfl⟩ | ⟨hk, e2'⟩
        · obtain ⟨_, a, o, rfl, _, _, _, _, nn⟩ := hs
          rw [gi, gs j hj]
          exact nn.1 j p c e1'
        · rw [gs j hj, gs k hk]
          exact S.ne j k p q c d n e1' e2'
    · obtain ⟨q, c, hc⟩ := S.pin j x hj
      have hj' : j ≠ i := fun e => by subst e; exact nop c hc
      refine ⟨by rw [gs j hj']; exact q, c, ?_⟩
      rw [List.getElem?_set_ne (Ne.symm hj')]
      exact hc
    · rcases g j _ e with ⟨_, rfl⟩ | ⟨hj, e⟩
      · exact hs.elim
      · exact ⟨e, gs j hj⟩
    · rcases g j _ e with ⟨_, rfl⟩ | ⟨hj, e⟩
      · exact hs.elim
      · exact ⟨e, gs j hj⟩
    · rcases g j _ e with ⟨rfl, rfl⟩ | ⟨hj, e⟩
      · obtain ⟨_, a, o, rfl, _, _, _, _, nn⟩ := hs
        rw [gi]
        intro q
        cases q
        exact nn.2 f
      · rw [gs j hj]
        exact w j p c e
  · cases h
end
def Rs.sl : Rs → Sl
  | .pu d => .pu d
  | .nw c => .ow false c
@[simp] theorem Rs.sl_pu (d : D) : (Rs.pu d).sl = .pu d := rfl
@[simp] theorem Rs.sl_nw (c : Ct) : (Rs.nw c).sl = .ow false c := rfl
def nx1 (o : Option Rho) : Mo := match o with
  | some ρ => .nx ρ
  | none => .st
@[simp] theorem nx1_some (ρ : Rho) : nx1 (some ρ) = .nx ρ := rfl
def oSet (i : Nat) (o : O Rs) : Os := fun ρ => (o ρ).bindS fun r ρ1 => nx1 (setSl ρ1 i r.sl)
section
variable {X : Cx} {G : Gm} {B : Wish} {e c : Expr} {pos pos' : Pos}
theorem put_res {K : PySem.W.Frag} {Z : Hp} {ρ ρ' : Rho} {σ : St} {H : Hp} {i : Nat} {v : V} {r : Rs} (S : Sim K G Z ρ σ H) (h : setSl ρ i r.sl = some ρ') (hr : RsR K G Z ρ σ H v r) : Sim K G Z ρ' (σ.set i (some v)) H := by
  refine S.put h ?_
  cases r with
  | pu d => exact hr
  | nw c =>
    obtain ⟨a, o, h1, h2, h3, h4, h5, h6⟩ := hr
    exact ⟨rfl, a, o, h1, h2, h3, h4, h5, h6⟩
theorem asg_name {K : PySem.W.Frag} {i : Nat} {o : O Rs} {D : Ends} {σ : St} {H : Hp} (w : RunS K G B (oSet i o) D σ H) : tAsg (Run K G B (RsR K G) o) (gName i) D σ H :=
  runS_bind (C := fun x H1 => D.nx (σ.set i (some x)) H1) w fun x r ρ1 Z1 H1 S1 q p1 => by
    cases h : setSl ρ1 i r.sl with
    | none => rw [h] at p1; exact p1.elim
    | some ρ' => rw [h] at p1; exact p1 _ Z1 H1 (.refl _) (put_res S1 h q)
theorem sd_set (i : Nat) {x : Str} {o : O Rs} (he : RD X G B e o) (hN : X.N.Nodup) (hi : X.N[i]? = some x := by rfl) (hx : Loc X.env.scope x := by first | exact Or.inl rfl | exact Or.inr rfl) (hs : swapsWith e (some (.Name x pos')) pos.line X.env = pure false := by rfl)
    (hf : X.fn x = true ∨ X.env.scope.names.lookup x = some .local := by first | exact .inl rfl | exact .inr rfl | assumption) : SD X G B (.Assign [.Name x pos'] e pos) (oSet i o) :=
  ps_imp (ps_set hN hi hx he hs hf) fun D σ H w => asg_name w
end
/-! ### targets -/
/-- a target that is given still data -/
def gRun (K : PySem.W.Frag) (G : Gm) (T : List Nat) (g : D → Rho → Option Rho) : TG := fun v σ H Q => ∃ Z ρ d ρ', Sim K G Z ρ σ H ∧ Rp K Z v d ∧ g d ρ = some ρ' ∧ ∀ σ' Z' H', σ'.length = σ.length → (∀ j : Nat, j ∉ T → σ'[j]? = σ[j]?) → Same Z Z' → Sim K G Z' ρ' σ' H' → Q σ' H'
def gsRun (K : PySem.W.Frag) (G : Gm) (T : List Nat) (g : List D → Rho → Option Rho) : TGs := fun vs σ H Q => ∃ Z ρ ds ρ', Sim K G Z ρ σ H ∧ RpAll K Z vs ds ∧ g ds ρ = some ρ' ∧ ∀ σ' Z' H', σ'.length = σ.length → (∀ j : Nat, j ∉ T → σ'[j]? = σ[j]?) → Same Z Z' → Sim K G Z' ρ' σ' H' → Q σ' H'
def GD (X : Cx) (G : Gm) (tg : Expr) (T : List Nat) (g : D → Rho → Option Rho) : Prop := PG X tg (gRun X.K G T g)
def GDs (X : Cx) (G : Gm) (tg : List Expr) (T : List Nat) (g : List D → Rho → Option Rho) : Prop := PGs X tg (gsRun X.K G T g)
def gNm (i : Nat) : D → Rho → Option Rho := fun d ρ => setSl ρ i (.pu d)
def gNl : List D → Rho → Option Rho := fun ds ρ => match ds with
  | [] => some ρ
  | _ => none
def gCn (g : D → Rho → Option Rho) (gs : List D → Rho → Option Rho) : List D → Rho → Option Rho := fun ds ρ => match ds with
  | d :: r => (g d ρ).bind (gs r)
  | [] => none
def gTp (n : Nat) (gs : List D → Rho → Option Rho) : D → Rho → Option Rho := fun d ρ => match d with
  | .tuple ds => if ds.length = n then gs ds ρ else none
  | .dict [(.bool true, .tuple ds)] => if ds.length = n then gs ds ρ else none
  | _ => none
section
variable {X : Cx} {G : Gm} {B : Wish} {e tg : Expr} {es : List Expr} {pos pos' : Pos}
theorem pg_imp {tg : Expr} {t t' : TG} (h : PG X tg t) (k : ∀ v σ H Q, t' v σ H Q → t v σ H Q) : PG X tg t' := ⟨fun pins s σ H v u Q I r w => h.run pins s σ H v u Q I r (k _ _ _ _ w)⟩
theorem pgs_imp {tg : List Expr} {t t' : TGs} (h : PGs X tg t) (k : ∀ v σ H Q, t' v σ H Q → t v σ H Q) : PGs X tg t' := ⟨fun pins s σ H v u Q I r w => h.run pins s σ H v u Q I r (k _ _ _ _ w)⟩
theorem gd_name (i : Nat) {x : Str} (hN : X.N.Nodup) (hi : X.N[i]? = some x := by rfl) (hx : Loc X.env.scope x := by first | exact Or.inl rfl | exact Or.inr rfl) (hf : X.fn x = true ∨ X.env.scope.names.lookup x = some .local := by first | exact .inl rfl | exact .inr rfl | assumption) :
    GD X G (.Name x pos) [i] (gNm i) := pg_imp (pg_name hN hi hx hf) fun v σ H Q ⟨Z, ρ, d, ρ', S, r, h, k⟩ => k _ Z H List.length_set (fun j hj => by rw [List.getElem?_set_ne]; intro e; exact hj (by simp [e])) (.refl _) (S.put h r)
theorem gds_nil : GDs X G [] [] gNl := pgs_imp pgs_nil fun v σ H Q ⟨Z, ρ, d, ρ', S, r, h, k⟩ => by
  unfold gNl at h
  split at h
  · cases h; cases r; exact ⟨rfl, k σ Z H rfl (fun _ _ => rfl) (.refl _) S⟩
  · cases h
theorem gds_cons {T T' : List Nat} {g : D → Rho → Option Rho} {gs : List D → Rho → Option Rho} (h1 : GD X G e T g) (h2 : GDs X G es T' gs)
    (hs : (assignEach (e :: es) X.env).map (·.2) = assign e X.env :: (assignEach es X.env).map (·.2) := by rfl) : GDs X G (e :: es) (T ++ T') (gCn g gs) :=
  pgs_imp (pgs_cons h1 h2 hs) fun v σ H Q ⟨Z, ρ, d, ρ', S, r, h, k⟩ => by
    unfold gCn at h
    split at h
    · rename_i d ds
      cases r with
      | cons r1 r2 =>
        cases q : g d ρ with
        | none => rw [q] at h; cases h
        | some ρ1 =>
          rw [q] at h
          exact ⟨_, _, rfl, Z, ρ, d, ρ1, S, r1, q, fun σ1 Z1 H1 l1 j1 e1 S1 => ⟨Z1, ρ1, ds, ρ', S1, r2.mono e1, h, fun σ2 Z2 H2 l2 j2 e2 => k σ2 Z2 H2 (l2.trans l1) (fun j hj => (j2 j fun q => hj (List.mem_append_right _ q)).trans (j1 j fun q => hj (List.mem_append_left _ q))) (e1.trans e2)⟩⟩
    · cases h
theorem gd_tup {T : List Nat} {k n : Nat} {gs : List D → Rho → Option Rho} (hc : X.calm = true) (h : GDs X G es T gs)
    (hn : (assignEach es X.env).length = n := by rfl) (hst : (assignEach es X.env).findIdx? (·.1) = none := by rfl) : GD X G (.Tuple es k pos) T (gTp n gs) :=
  pg_imp (pg_tup hc h hn hst) fun v σ H Q ⟨Z, ρ, d, ρ', S, r, h, k⟩ => by
    unfold gTp at h
    split at h
    · split at h
      · rename_i hl
        cases r with
        | tup r1 r2 => exact ⟨_, _, rfl, SqT.of (S.zh _ _ r1), by rw [r2.length]; exact hl, Z, ρ, _, ρ', S, r2, h, k⟩
      · cases h
    · split at h
      · rename_i hl
        cases r with
        | kon r1 r2 => exact ⟨_, _, rfl, sqT_mono S.zh r1, by rw [r2.length]; exact hl, Z, ρ, _, ρ', S, r2, h, k⟩
      · cases h
    · cases h
def oAsg (o : O D) (g : D → Rho → Option Rho) : Os := fun ρ => (o ρ).bindS fun d ρ1 => nx1 (g d ρ1)
theorem sd_asg {T : List Nat} {o : O D} {g : D → Rho → Option Rho} (he : PD X G B e o) (hg : GD X G tg T g) (hs : swapsWithSole [tg] e pos.line X.env = pure false := by rfl) (hw : swappedStores [tg] e X.env = pure none := by rfl)
    (h1 : (assignEach [tg] X.env).map (·.2) = [assign tg X.env] := by rfl) : SD X G B (.Assign [tg] e pos) (oAsg o g) :=
  ps_imp (ps_asg he hg hs hw h1) fun D σ H w => runS_bind (C := fun x H1 => gRun X.K G T g x σ H1 D.nx) w fun x d ρ1 Z1 H1 S1 q p1 => by
    cases h : g d ρ1 with
    | none => rw [h] at p1; exact p1.elim
    | some ρ' => rw [h] at p1; exact ⟨Z1, ρ1, d, ρ', S1, q, h, fun σ' Z' H' _ _ => p1 σ' Z' H'⟩
end
end Ow
namespace Ow
open PySem L2
/-! ### changes to what a slot owns -/
section
variable {K : PySem.W.Frag} {G : Gm} {Z : Hp} {ρ ρ' : Rho} {σ : St} {H : Hp} {i : Nat} {v : V}
theorem Sim.write (S : Sim K G Z ρ σ H) {p : Bool} {c c' : Ct} {a : Addr} {o' : HO} (h : ρ[i]? = some (Sl.ow p c)) (ha : σ[i]? = some (some (V.ref a))) (hc : CtR K Z o' c') : Sim K G Z (ρ.set i (.ow p c')) σ (upd H a o') := by
  obtain ⟨a', o, q, ho, r, z, l, n⟩ := S.ow i p c h
  rw [ha] at q
  cases q
  have hi : i < ρ.length := (List.getElem?_eq_some_iff.mp h).1
  have g : ∀ (j : Nat) t, (ρ.set i (.ow p c'))[j]? = some t → (j = i ∧ t = .ow p c') ∨ (j ≠ i ∧ ρ[j]? = some t) := fun j t e => by
    by_cases hj : j = i
    · subst hj; rw [List.getElem?_set_self hi] at e; cases e; exact .inl ⟨rfl, rfl⟩
    · rw [List.getElem?_set_ne (Ne.symm hj)] at e; exact .inr ⟨hj, e⟩
  refine ⟨S.zz, fun b u e => ?_, fun b u e nl => ?_, S.nw, fun j d e => ?_, fun j q d e => ?_, fun j k q q' c1 d n1 e1 e2 => ?_, fun j x hj => ?_, by rw [List.length_set]; exact S.len, S.lx.frame (fun j xss e => ?_) (fun j k m e => ?_) (.refl _) fun b u f zb gn w hu => ⟨(by rw [upd_ne]; exact hu; intro e; subst e; exact w i _ _ h ha), zb, gn, fun j q d e => ?_⟩⟩
  · rw [upd_ne (ne_of_none e z)]; exact S.zh _ _ e
  · have hb : b ≠ a := fun e' => by
      subst e'
      cases p with
      | true => exact nl (l rfl)
      | false => rw [n rfl] at e; cases e
    rw [upd_ne hb]; exact S.fr b u e nl
  · rcases g j _ e with ⟨rfl, e'⟩ | ⟨hj, e⟩
    · cases e'
    · exact S.pu j d e
  · rcases g j _ e with ⟨rfl, e'⟩ | ⟨hj, e⟩
    · cases e'; exact ⟨a, o', ha, upd_same, hc, z, l, n⟩
    · obtain ⟨b, u, q1, hu, r1, z1, l1⟩ := S.ow j q d e
      have hb : b ≠ a := fun e' => by subst e'; exact S.ne j i _ _ _ _ hj e h (q1.trans ha.symm)
      exact ⟨b, u, q1, by rw [upd_ne hb]; exact hu, r1, z1, l1⟩
  · rcases g j _ e1 with ⟨rfl, e1'⟩ | ⟨hj, e1'⟩
    · rcases g k _ e2 with ⟨rfl, e2'⟩ | ⟨hk, e2'⟩
      · exact absurd rfl n1
      · exact S.ne j k _ _ _ _ n1 h e2'
    · rcases g k _ e2 with ⟨rfl, e2'⟩ | ⟨hk, e2'⟩
      · exact S.ne j k _ _ _ _ n1 e1' h
      · exact S.ne j k _ _ _ _ n1 e1' e2'
  · obtain ⟨q, c1, hc1⟩ := S.pin j x hj
    refine ⟨q, ?_⟩
    by_cases hj' : j = i
    · subst hj'
      rw [h] at hc1
      cases hc1
      exact ⟨c', List.getElem?_set_self hi⟩
    · exact ⟨c1, by rw [List.getElem?_set_ne (Ne.symm hj')]; exact hc1⟩
  · rcases g j _ e with ⟨_, e'⟩ | ⟨_, e⟩
    · cases e'
    · exact ⟨e, rfl⟩
  · rcases g j _ e with ⟨_, e'⟩ | ⟨_, e⟩
    · cases e'
    · exact ⟨e, rfl⟩
  · rcases g j _ e with ⟨rfl, _⟩ | ⟨_, e⟩
    · exact w j _ _ h
    · exact w j q d e
end
/-- a method that changes its list or dict: new content, answer -/
def MutS (K : PySem.W.Frag) (r : V → List V → Hp → VK → Prop) (f : Ct → List D → Option (Ct × D)) : Prop := ∀ (a : Addr) (o : HO) (c : Ct) (vs : List V) (ds : List D) (c' : Ct) (d : D) (Z H : Hp) (Q : VK), Same Z H → H a = some o → CtR K Z o c →
  Paired (Rdb K Z H) vs ds → f c ds = some (c', d) → (∀ v o', CtR K Z o' c' → Rp K Z v d → Q v (upd H a o')) → r (.ref a) vs H Q
def mut1 (i : Nat) (f : Ct → List D → Option (Ct × D)) (as : List Va) (ρ : Rho) : M D := match ρ[i]?, rdVs ρ as with
  | some (.ow p c), some ds => match f c ds with
    | some (c', d) => .ok d (ρ.set i (.ow p c'))
    | none => .st
  | _, _ => .st
def oMut (i : Nat) (f : Ct → List D → Option (Ct × D)) (oas : O (List Va)) : O D := fun ρ => match ρ[i]? with
  | some (.ow _ (.li _)) => (oas ρ).bind (mut1 i f)
  | _ => .st
section
variable {X : Cx} {G : Gm} {B : Wish} {name x : Str} {apos cpos npos : Pos} {e o : Expr} {es : List Expr} {id : String} {r : V → List V → Hp → VK → Prop} {f : Ct → List D → Option (Ct × D)} {oas : O (List Va)}
theorem mut1_run {K : PySem.W.Frag} (hf : MutS K r f) {i : Nat} {σ : St} {Z H : Hp} {ρ : Rho} {v : V} {vs : List V} {as : List Va} {Q : VK} (S : Sim K G Z ρ σ H) (q : σ[i]? = some (some v)) (rv : VasR K Z ρ σ H vs as)
    (p : Post K G B (PuR K) σ Z (mut1 i f as ρ) Q) : r v vs H Q := by
  unfold mut1 at p
  split at p
  · rename_i pn c ds h hd
    split at p
    · rename_i c' d hc
      obtain ⟨a, o, q', ho, r1, z, _⟩ := S.ow i _ _ h
      rw [q] at q'
      cases q'
      exact hf a o c vs ds c' d Z H Q S.zh ho r1 (S.rdbs rv hd) hc fun w o' hc' rw => p w Z _ (.refl _) (S.write h q hc') rw
    · exact p.elim
  · exact p.elim
theorem pd_mut (i : Nat) (slot : Slot "list" name id) (hty : typeOf (.builtin id) = pure (.type "method_descriptor")) (hm : MtR X id r) (hf : MutS X.K r f) (ha : AD X G B (e :: es) oas)
    (hN : X.N[i]? = some x := by rfl) (hv : Vis X.env.scope x := by first | exact Or.inl rfl | exact Or.inr (Or.inl rfl) | exact Or.inr (Or.inr rfl)) (hd : (x == ("__debug__" : Str)) = false := by decide)
    (hcd : (x == ("__classdict__" : Str)) = false := by decide)
    (hbase : attributeBase (.Name x npos) name X.env (eval (.Name x npos) X.env) = eval (.Name x npos) X.env := by rfl)
    (hfew : ((backTo cpos (starEach (e :: es) X.env)).all (fun x => !x.1) && (backToKw cpos (keywordEach [] X.env)).all (fun x => x.1.isSome)
      && decide ((e :: es).length + ([] : List Keyword).length + (if ([] : List Keyword).isEmpty then 0 else 1) < 30)) = true := by rfl)
    (hline : (apos.endLine == cpos.line) = true := by rfl) (hs : starEach (e :: es) X.env = (false, eval e X.env) :: starEach es X.env := by rfl) (hplain : (backTo cpos (starEach es X.env)).any (·.1) = false := by rfl) :
    PD X G B (.Call (.Attribute (.Name x npos) name apos) (e :: es) [] cpos) (oMut i f oas) := by
  refine pe_imp (pe_bm PySem.F.plainAttrs_list slot hty hm (pe_var (i := i) hN hv hd hcd) ha hbase hfew hline hs hplain) ?_
  rintro σ H Q ⟨Z, ρ, S, p⟩
  unfold oMut at p
  split at p
  · rename_i pn ds h
    obtain ⟨a, o, q, ho, r1, z, _⟩ := S.ow i _ _ h
    cases o with
    | lst vs => exact ⟨_, q, .inl ⟨rfl, vs, SqL.of ho⟩, Z, ρ, S, Post.bind p fun ws as ρ1 Z1 H1 e1 S1 r1 p1 => mut1_run hf S1 q r1 p1⟩
    | _ => exact r1.elim
  · exact p.elim
theorem pd_mut0 (i : Nat) (slot : Slot "list" name id) (hty : typeOf (.builtin id) = pure (.type "method_descriptor")) (hm : MtR X id r) (hf : MutS X.K r f)
    (hN : X.N[i]? = some x := by rfl) (hv : Vis X.env.scope x := by first | exact Or.inl rfl | exact Or.inr (Or.inl rfl) | exact Or.inr (Or.inr rfl)) (hd : (x == ("__debug__" : Str)) = false := by decide)
    (hcd : (x == ("__classdict__" : Str)) = false := by decide)
    (hbase : attributeBase (.Name x npos) name X.env (eval (.Name x npos) X.env) = eval (.Name x npos) X.env := by rfl) (hline : (apos.endLine == cpos.line) = true := by rfl) :
    PD X G B (.Call (.Attribute (.Name x npos) name apos) [] [] cpos) (oMut i f oNil) := by
  refine pe_imp (pe_bm0 PySem.F.plainAttrs_list slot hty hm (pe_var (i := i) hN hv hd hcd) hbase hline) ?_
  rintro σ H Q ⟨Z, ρ, S, p⟩
  unfold oMut at p
  split at p
  · rename_i pn ds h
    obtain ⟨a, o, q, ho, r1, z, _⟩ := S.ow i _ _ h
    cases o with
    | lst vs => exact ⟨_, q, .inl ⟨rfl, vs, SqL.of ho⟩, mut1_run hf S q .nil p⟩
    | _ => exact r1.elim
  · exact p.elim
/-- kept data as arguments -/
def oPus (o : O (List D)) : O (List Va) := fun ρ => (o ρ).bind fun ds ρ1 => .ok (ds.map Va.pu) ρ1
theorem vas_pus {K : PySem.W.Frag} {Z : Hp} {ρ : Rho} {σ : St} {H : Hp} : ∀ {vs : List V} {ds : List D}, RpAll K Z vs ds → VasR K Z ρ σ H vs (ds.map Va.pu)
  | _, [], h => by cases h; exact .nil
  | _, d :: ds, h => by
    cases h with
    | cons h1 h2 => exact .cons h1 (vas_pus h2)
theorem ad_qd {es : List Expr} {o : O (List D)} (h : QD X G B es o) : AD X G B es (oPus o) := pa_imp h fun σ H Q w => run_imp w fun x ds ρ1 Z1 H1 S1 r1 p1 => p1 x Z1 H1 (.refl _) S1 (vas_pus r1)
end
def fAppend : Ct → List D → Option (Ct × D)
  | .li xs, [d] => if xs.length < 16000000 then some (.li (xs ++ [d]), .none) else none
  | _, _ => none
def fExtend : Ct → List D → Option (Ct × D)
  | .li xs, [.list ys] => if xs.length + ys.length ≤ 16000000 then some (.li (xs ++ ys), .none) else none
  | _, _ => none
def fPop : Ct → List D → Option (Ct × D)
  | .li xs, [] => (xs[xs.length - 1]?).map fun d => (.li xs.dropLast, d)
  | _, _ => none
def fPopAt : Ct → List D → Option (Ct × D)
  | .li xs, [.int i] => if 0 ≤ i ∧ i.natAbs < 4611686018427387904 then (xs[i.toNat]?).map fun d => (.li (xs.eraseIdx i.toNat), d) else none
  | _, _ => none
def fInsert : Ct → List D → Option (Ct × D)
  | .li xs, [.int i, d] => if 0 ≤ i ∧ i.natAbs < 4611686018427387904 ∧ xs.length < 16000000 then some (.li (xs.take i.toNat ++ [d] ++ xs.drop i.toNat), .none) else none
  | _, _ => none
section
variable {K : PySem.W.Frag}
theorem Rdb.keptD {Z H : Hp} {v : V} {d : D} (h : Rdb K Z H v d) (n : ∀ ds, d ≠ .list ds) : Rp K Z v d := by
  rcases h with h | ⟨_, _, ds, _, e, _⟩
  · exact h
  · exact absurd e (n ds)
theorem mutS_extend : MutS K rExtend fExtend := by
  intro a o c vs ds c' d Z H Q e ho r rv hf k
  unfold fExtend at hf
  split at hf
  · split at hf
    · cases hf
      rename_i hz
      obtain ⟨v, rfl, r1⟩ := Paired.one rv
      obtain ⟨b, ws, rfl, hb, rb⟩ := r1.list e
      cases o with
      | lst us => exact ⟨a, b, us, ws, rfl, rfl, ho, hb, by rw [RpAll.length r, rb.length]; exact lim_le hz, k _ (.lst _) (RpAll.append r rb) .non⟩
      | _ => exact r.elim
    · cases hf
  · cases hf
theorem mutS_pop : MutS K rPop fPop := by
  intro a o c vs ds c' d Z H Q e ho r rv hf k
  unfold fPop at hf
  split at hf
  · rename_i xs
    cases q : xs[xs.length - 1]? with
    | none => rw [q] at hf; cases hf
    | some y =>
      rw [q] at hf
      cases hf
      cases rv
      cases o with
      | lst us =>
        obtain ⟨w, hw, rw'⟩ := RpAll.get r q
        exact ⟨a, us, w, rfl, rfl, ho, by rw [RpAll.length r]; exact hw, k _ (.lst _) (RpAll.dropLast r) rw'⟩
      | _ => exact r.elim
  · cases hf
theorem seqIndex_nat {i : Int} {n : Nat} (h0 : 0 ≤ i) (h1 : i.toNat < n) : seqIndex? i n = some i.toNat := by
  have q : ixN n i = some i.toNat := by unfold ixN; rw [if_pos h0, if_pos (by omega)]
  exact (ixN_seq q).1
theorem mutS_popAt : MutS K rPopAt fPopAt := by
  intro a o c vs ds c' d Z H Q e ho r rv hf k
  unfold fPopAt at hf
  split at hf
  · rename_i xs i
    split at hf
    · rename_i hi
      cases q : xs[i.toNat]? with
      | none => rw [q] at hf; cases hf
      | some y =>
        rw [q] at hf
        cases hf
        obtain ⟨v, rfl, r1⟩ := Paired.one rv
        rw [r1.int]
        cases o with
        | lst us =>
          obtain ⟨w, hw, rw'⟩ := RpAll.get r q
          have hl : i.toNat < us.length := (List.getElem?_eq_some_iff.mp hw).1
          exact ⟨a, us, i, i.toNat, w, rfl, rfl, ho, by omega, by omega, seqIndex_nat hi.1 hl, hw, k _ (.lst _) (RpAll.eraseIdx _ r) rw'⟩
        | _ => exact r.elim
    · cases hf
  · cases hf
end
/-- .. with kept arguments -/
def MutK (K : PySem.W.Frag) (r : V → List V → Hp → VK → Prop) (f : Ct → List D → Option (Ct × D)) : Prop := ∀ (a : Addr) (o : HO) (c : Ct) (vs : List V) (ds : List D) (c' : Ct) (d : D) (Z H : Hp) (Q : VK), Same Z H → H a = some o → CtR K Z o c →
  RpAll K Z vs ds → f c ds = some (c', d) → (∀ v o', CtR K Z o' c' → Rp K Z v d → Q v (upd H a o')) → r (.ref a) vs H Q
def mutK1 (i : Nat) (f : Ct → List D → Option (Ct × D)) (ds : List D) (ρ : Rho) : M D := match ρ[i]? with
  | some (.ow p c) => match f c ds with
    | some (c', d) => .ok d (ρ.set i (.ow p c'))
    | none => .st
  | _ => .st
def oMutK (i : Nat) (f : Ct → List D → Option (Ct × D)) (oas : O (List D)) : O D := fun ρ => match ρ[i]? with
  | some (.ow _ (.li _)) => (oas ρ).bind (mutK1 i f)
  | _ => .st
section
variable {X : Cx} {G : Gm} {B : Wish} {name x : Str} {apos cpos npos : Pos} {e o : Expr} {es : List Expr} {id : String} {r : V → List V → Hp → VK → Prop} {f : Ct → List D → Option (Ct × D)} {oas : O (List D)}
theorem mutK1_run {K : PySem.W.Frag} (hf : MutK K r f) {i : Nat} {σ : St} {Z H : Hp} {ρ : Rho} {v : V} {vs : List V} {ds : List D} {Q : VK} (S : Sim K G Z ρ σ H) (q : σ[i]? = some (some v)) (rv : RpAll K Z vs ds)
    (p : Post K G B (PuR K) σ Z (mutK1 i f ds ρ) Q) : r v vs H Q := by
  unfold mutK1 at p
  split at p
  · rename_i pn c h
    split at p
    · rename_i c' d hc
      obtain ⟨a, o, q', ho, r1, z, _⟩ := S.ow i _ _ h
      rw [q] at q'
      cases q'
      exact hf a o c vs ds c' d Z H Q S.zh ho r1 rv hc fun w o' hc' rw => p w Z _ (.refl _) (S.write h q hc') rw
    · exact p.elim
  · exact p.elim
theorem pd_mutK (i : Nat) (slot : Slot "list" name id) (hty : typeOf (.builtin id) = pure (.type "method_descriptor")) (hm : MtR X id r) (hf : MutK X.K r f) (ha : QD X G B (e :: es) oas)
    (hN : X.N[i]? = some x := by rfl) (hv : Vis X.env.scope x := by first | exact Or.inl rfl | exact Or.inr (Or.inl rfl) | exact Or.inr (Or.inr rfl)) (hd : (x == ("__debug__" : Str)) = false := by decide)
    (hcd : (x == ("__classdict__" : Str)) = false := by decide)
    (hbase : attributeBase (.Name x npos) name X.env (eval (.Name x npos) X.env) = eval (.Name x npos) X.env := by rfl)
    (hfew : ((backTo cpos (starEach (e :: es) X.env)).all (fun x => !x.1) && (backToKw cpos (keywordEach [] X.env)).all (fun x => x.1.isSome)
      && decide ((e :: es).length + ([] : List Keyword).length + (if ([] : List Keyword).isEmpty then 0 else 1) < 30)) = true := by rfl)
    (hline : (apos.endLine == cpos.line) = true := by rfl) (hs : starEach (e :: es) X.env = (false, eval e X.env) :: starEach es X.env := by rfl) (hplain : (backTo cpos (starEach es X.env)).any (·.1) = false := by rfl) :
    PD X G B (.Call (.Attribute (.Name x npos) name apos) (e :: es) [] cpos) (oMutK i f oas) := by
  refine pe_imp (pe_bm PySem.F.plainAttrs_list slot hty hm (pe_var (i := i) hN hv hd hcd) ha hbase hfew hline hs hplain) ?_
  rintro σ H Q ⟨Z, ρ, S, p⟩
  unfold oMutK at p
  split at p
  · rename_i pn ds h
    obtain ⟨a, o, q, ho, r1, z, _⟩ := S.ow i _ _ h
    cases o with
    | lst vs => exact ⟨_, q, .inl ⟨rfl, vs, SqL.of ho⟩, Z, ρ, S, Post.bind p fun ws as ρ1 Z1 H1 e1 S1 r1 p1 => mutK1_run hf S1 q r1 p1⟩
    | _ => exact r1.elim
  · exact p.elim
end
section
variable {K : PySem.W.Frag}
theorem mutK_append : MutK K rAppend fAppend := by
  intro a o c vs ds c' d Z H Q e ho r rv hf k
  unfold fAppend at hf
  split at hf
  · split at hf
    · cases hf
      rename_i hz
      cases rv with
      | cons r1 r2 =>
        cases r2
        cases o with
        | lst us => exact ⟨a, us, _, rfl, rfl, ho, by rw [RpAll.length r]; exact lim_lt hz, k _ (.lst _) (RpAll.append r (.one r1)) .non⟩
        | _ => exact r.elim
    · cases hf
  · cases hf
theorem mutK_insert : MutK K (fun x vs H Q => ∃ (l : Addr) (xs : List V) (i : Int) (y : V), x = .ref l ∧ vs = [.int i, y] ∧ H l = some (.lst xs) ∧ xs.length < sizeLine ∧ 0 ≤ i ∧ i < 2 ^ 63 ∧
    Q .non (upd H l (.lst (xs.take i.toNat ++ [y] ++ xs.drop i.toNat)))) fInsert := by
  intro a o c vs ds c' d Z H Q e ho r rv hf k
  unfold fInsert at hf
  split at hf
  · split at hf
    · cases hf
      rename_i hz
      cases rv with
      | cons r1 r2 =>
        cases r2 with
        | cons r2 r3 =>
          cases r3
          cases r1
          cases o with
          | lst us => exact ⟨a, us, _, _, rfl, rfl, ho, by rw [RpAll.length r]; exact lim_lt hz.2.2, hz.1, by omega, k _ (.lst _) (((RpAll.take _ r).append (.one r2)).append (RpAll.drop _ r)) .non⟩
          | _ => exact r.elim
    · cases hf
  · cases hf
end
end Ow
namespace Ow
open PySem L2
/-! ### x op= e -/
def fAddS : D → D → Option Rs
  | .str i, .str j => if i.length + j.length ≤ 16000000 then some (.pu (.str (i ++ j))) else none
  | _, _ => none
def fMulI : D → D → Option Rs
  | .int i, .int j => if mulOk i j = true then some (.pu (.int (i * j))) else none
  | _, _ => none
structure AugK (X : Cx) (op : Operator) (r : R2) (f : D → D → Option Rs) : Prop where
  o : PIp X op r
  s : BinS X.K r f
def aug1 (i : Nat) (f : D → D → Option Rs) (x : D) (b : Va) (ρ : Rho) : Mo := match rdV ρ b with
  | some dy => match f x dy with
    | some (.pu d) => nx1 (setSl ρ i (.pu d))
    | _ => .st
  | none => .st
def oAug (i : Nat) (f : D → D → Option Rs) (o : O Va) : Os := fun ρ => match ρ[i]? with
  | some (.pu x) => (o ρ).bindS (aug1 i f x)
  | _ => .st
section
variable {X : Cx} {G : Gm} {B : Wish} {e o ix : Expr} {pos pos' tpos npos : Pos} {op : Operator} {r : R2} {f : D → D → Option Rs} {x : Str}
theorem ak_add : AugK X .Add (rI0 fun i j => .int (i + j)) (fInt2 fun i j => i + j) := ⟨iop_add, binS_int⟩
theorem ak_addS : AugK X .Add (fun x y H Q => ∃ i j, x = .str i ∧ y = .str j ∧ i.length + j.length ≤ sizeLine ∧ Q (.str (i ++ j)) H) fAddS :=
  ⟨iop_add_str, by
    intro x y dx dy R Z H Q e rx ry hf k
    unfold fAddS at hf
    split at hf
    · split at hf
      · cases hf; exact ⟨_, _, rx.str, ry.str, lim_le ‹_›, k _ Z H (.refl e) (.str _)⟩
      · cases hf
    · cases hf⟩
theorem ak_sub : AugK X .Sub (rI0 fun i j => .int (i - j)) fSub := ⟨iop_sub, binS_int⟩
theorem ak_mul : AugK X .Mult (rI CMul fun i j => .int (i * j)) fMulI :=
  ⟨iop_mul, binS_intC fun a b R h => by
    unfold fMulI at h
    split at h
    · split at h
      · cases h; rename_i hd; exact ⟨_, _, rfl, rfl, mulOk_c hd, rfl⟩
      · cases h
    · cases h⟩
theorem ak_and : AugK X .BitAnd (rI0 fun i j => .int (Builtin.bitAnd i j)) fAnd := ⟨iop_and, binS_int⟩
theorem ak_or : AugK X .BitOr (rI0 fun i j => .int (Builtin.bitOr i j)) fOr := ⟨iop_or, binS_int⟩
theorem ak_xor : AugK X .BitXor (rI0 fun i j => .int (Builtin.bitXor i j)) fXor := ⟨iop_xor, binS_int⟩
theorem ak_shr : AugK X .RShift (rI (fun _ j => 0 ≤ j) fun i j => .int (i / 2 ^ j.toNat)) fShr := ⟨iop_shr, binS_shr⟩
theorem ak_shl : AugK X .LShift (rI CPow fun i j => .int (i * 2 ^ j.toNat)) fShl := ⟨iop_shl, binS_shl⟩
theorem sd_aug (i : Nat) {oe : O Va} (a : AugK X op r f) (he : ED X G B e oe) (hN : X.N.Nodup) (hi : X.N[i]? = some x := by rfl) (hx : Loc X.env.scope x := by first | exact Or.inl rfl | exact Or.inr rfl)
    (hf : X.fn x = true ∨ X.env.scope.names.lookup x = some .local := by first | exact .inl rfl | exact .inr rfl | assumption) : SD X G B (.AugAssign (.Name x pos') op e pos) (oAug i f oe) := by
  refine ps_imp (ps_aug hN hi hx he a.o hf) ?_
  rintro D σ H ⟨Z, ρ, S, p⟩
  unfold oAug at p
  split at p
  · rename_i d h
    obtain ⟨v, q, rv⟩ := S.pu i d h
    refine ⟨v, q, Z, ρ, S, PostS.bind p fun y b ρ1 Z1 H1 e1 S1 r1 p1 => ?_⟩
    unfold aug1 at p1
    split at p1
    · rename_i dy hy
      split at p1
      · rename_i dz hz
        refine a.s v y d dy _ Z1 H1 _ S1.zh (.inl (rv.mono e1)) (S1.rdb r1 hy) hz fun w Z' H' g rw => ?_
        cases h : setSl ρ1 i (.pu dz) with
        | none => rw [h] at p1; exact p1.elim
        | some ρ' => rw [h] at p1; exact p1 _ Z' H' g.z ((S1.grow g).put h rw)
      · exact p1.elim
    · exact p1.elim
  · exact p.elim
/-! ### xs[i] op= e, xs[i] = e -/
def rIxN (K : PySem.W.Frag) : R2 := fun x y H Q => ∃ p xs i v, x = .ref p ∧ y = .int i ∧ SqL K H p xs ∧ 0 ≤ i ∧ xs[i.toNat]? = some v ∧ Q v H
theorem get_list : PGet X (rIxN X.K) := by
  intro pins s σ H o i ov iv Q I ro ri h
  obtain ⟨p, xs, k, z, rfl, rfl, hq, h0, he, q⟩ := h
  cases ro
  obtain ⟨t, rfl⟩ := ri
  obtain ⟨its, r, pl, hz⟩ := I.list hq
  obtain ⟨u, hu, ru⟩ := r.get he
  have hl := r.length
  have h63 := line63
  have hk : k.toNat < xs.length := (List.getElem?_eq_some_iff.mp he).1
  exact wpAny_getItem_list pl.isList h0 (by omega) (by simpa using hu) ⟨z, H, I, ru, q⟩
end
/-- the place of a store -/
def stL (ds : List D) (i : D) (d : D) : Option Ct := match i with
  | .int j => (ixN ds.length j).map fun n => .li (ds.set n d)
  | _ => none
def stL1 (k : Nat) (d i : D) (ρ : Rho) : Mo := match ρ[k]? with
  | some (.ow p (.li ds)) => match stL ds i d with
    | some c => .nx (ρ.set k (.ow p c))
    | none => .st
  | _ => .st
def oStL (k : Nat) (ov oi : O D) : Os := fun ρ => (ov ρ).bindS fun d ρ1 => match ρ1[k]? with
  | some (.ow _ (.li _)) => (oi ρ1).bindS fun i ρ2 => stL1 k d i ρ2
  | _ => .st
/-- xs[i] op= e, for ints -/
def auL1 (k : Nat) (f : D → D → Option Rs) (j : Nat) (x : D) (d : D) (ρ : Rho) : Mo := match ρ[k]? with
  | some (.ow p (.li ds)) => match f x d with
    | some (.pu y) => if j < ds.length then .nx (ρ.set k (.ow p (.li (ds.set j y)))) else .st
    | _ => .st
  | _ => .st
def auL2 (k : Nat) (f : D → D → Option Rs) (oe : O D) (i : D) (ρ : Rho) : Mo := match ρ[k]?, i with
  | some (.ow _ (.li ds)), .int j => if 0 ≤ j then match ds[j.toNat]? with
    | some x => (oe ρ).bindS fun d ρ1 => auL1 k f j.toNat x d ρ1
    | none => .st
    else .st
  | _, _ => .st
def oAuL (k : Nat) (f : D → D → Option Rs) (oi oe : O D) : Os := fun ρ => match ρ[k]? with
  | some (.ow _ (.li _)) => (oi ρ).bindS (auL2 k f oe)
  | _ => .st
section
variable {X : Cx} {G : Gm} {B : Wish} {e o ix : Expr} {pos pos' tpos npos : Pos} {op : Operator} {r : R2} {f : D → D → Option Rs} {x : Str}
theorem sd_stL (k : Nat) {ov oi : O D} (hv : PD X G B e ov) (hi : PD X G B ix oi)
    (hN : X.N[k]? = some x := by rfl) (hvis : Vis X.env.scope x := by first | exact Or.inl rfl | exact Or.inr (Or.inl rfl) | exact Or.inr (Or.inr rfl)) (hd : (x == ("__debug__" : Str)) = false := by decide)
    (hcd : (x == ("__classdict__" : Str)) = false := by decide)
    (ha : ∀ v, assign (.Subscript (.Name x npos) ix pos') X.env v = (do
      let ov ← holding [v] (eval (.Name x npos) X.env)
      let iv ← holding [v, ov] (eval ix X.env)
      standAt pos'
      holding [v, ov, iv] (setItem ov iv v)
      release [v, ov, iv] []) := by intro _; rfl)
    (hs : swapsWithSole [.Subscript (.Name x npos) ix pos'] e pos.line X.env = pure false := by rfl) (hw : swappedStores [.Subscript (.Name x npos) ix pos'] e X.env = pure none := by rfl)
    (h1 : (assignEach [.Subscript (.Name x npos) ix pos'] X.env).map (·.2) = [assign (.Subscript (.Name x npos) ix pos') X.env] := by rfl) :
    SD X G B (.Assign [.Subscript (.Name x npos) ix pos'] e pos) (oStL k ov oi) :=
  ps_imp (ps_asg hv (pg_sub (pe_var (i := k) hN hvis hd hcd) hi set_list ha) hs hw h1) fun D σ H w => runS_bind (C := fun v H1 => gSub (tVar k) (Run X.K G B (PuR X.K) oi) rSetL v σ H1 D.nx) w fun v d ρ1 Z1 H1 S1 rv p1 => by
    split at p1
    · rename_i p ds h
      obtain ⟨a, ob, q, ho, r1, z, _⟩ := S1.ow k _ _ h
      refine ⟨_, q, Z1, ρ1, S1, PostS.bind p1 fun iv di ρ2 Z2 H2 e2 S2 r2 p2 => ?_⟩
      unfold stL1 at p2
      split at p2
      · rename_i p' ds' h'
        split at p2
        · rename_i c hc
          unfold stL at hc
          split at hc
          · rename_i j
            cases hj : ixN ds'.length j with
            | none => rw [hj] at hc; cases hc
            | some n =>
              rw [hj] at hc
              cases hc
              have q2 : Rp X.K Z2 iv (.int j) := r2
              cases q2
              obtain ⟨a2, o2, q2, ho2, r2', z2, _⟩ := S2.ow k _ _ h'
              rw [q] at q2
              cases q2
              cases o2 with
              | lst us => exact ⟨a, us, j, n, rfl, rfl, ho2, by rw [RpAll.length r2']; exact hj, p2 σ Z2 _ (.refl _) (S2.write h' q (RpAll.set (Rp.mono rv e2) n r2'))⟩
              | _ => exact r2'.elim
          · cases hc
        · exact p2.elim
      · exact p2.elim
    · exact p1.elim
theorem sd_auL (k : Nat) {oi oe : O D} (a : AugK X op r f) (hi : PD X G B ix oi) (he : PD X G B e oe)
    (hN : X.N[k]? = some x := by rfl) (hvis : Vis X.env.scope x := by first | exact Or.inl rfl | exact Or.inr (Or.inl rfl) | exact Or.inr (Or.inr rfl)) (hd : (x == ("__debug__" : Str)) = false := by decide)
    (hcd : (x == ("__classdict__" : Str)) = false := by decide)
    (ha : ∀ ov iv new, augStore ix ov iv new = (do holding [new, ov, iv] (setItem ov iv new); release [new, ov, iv] []; pure .next) := by intros; rfl) :
    SD X G B (.AugAssign (.Subscript (.Name x npos) ix tpos) op e pos) (oAuL k f oi oe) := by
  refine ps_imp (ps_augS (pe_var (i := k) hN hvis hd hcd) hi get_list he a.o set_list ha) ?_
  rintro D σ H ⟨Z, ρ, S, p⟩
  unfold oAuL at p
  split at p
  · rename_i pn ds h
    obtain ⟨b, ob, q, ho, r1, z, _⟩ := S.ow k _ _ h
    refine ⟨_, q, Z, ρ, S, PostS.bind p fun iv di ρ1 Z1 H1 e1 S1 r1 p1 => ?_⟩
    unfold auL2 at p1
    split at p1
    · rename_i p' ds' j h1
      split at p1
      · rename_i h0
        split at p1
        · rename_i xd hx
          obtain ⟨b1, o1, q1, ho1, r1', z1, _⟩ := S1.ow k _ _ h1
          rw [q] at q1
          cases q1
          have qi : Rp X.K Z1 iv (.int j) := r1
          cases qi
          cases o1 with
          | lst us =>
            obtain ⟨w, hw, rw'⟩ := RpAll.get r1' hx
            refine ⟨b, us, j, w, rfl, rfl, SqL.of ho1, h0, hw, Z1, ρ1, S1, PostS.bind p1 fun y d ρ2 Z2 H2 e2 S2 r2 p2 => ?_⟩
            unfold auL1 at p2
            split at p2
            · rename_i p2' ds2 h2
              split at p2
              · rename_i y' hy'
                split at p2
                · rename_i hj
                  refine a.s w y xd d _ Z2 H2 _ S2.zh (.inl (rw'.mono e2)) (.inl r2) hy' fun v Z' H' g rv => ?_
                  have S3 := S2.grow g
                  obtain ⟨b2, o2, q2, ho2, r2', z2, _⟩ := S3.ow k _ _ h2
                  rw [q] at q2
                  cases q2
                  cases o2 with
                  | lst us2 =>
                    have hl := RpAll.length r2'
                    refine ⟨b, us2, j, j.toNat, rfl, rfl, ho2, ?_, p2 σ Z' _ g.z (S3.write h2 q (RpAll.set rv _ r2'))⟩
                    unfold ixN
                    rw [if_pos h0, if_pos (by omega)]
                  | _ => exact r2'.elim
                · exact p2.elim
              · exact p2.elim
            · exact p2.elim
          | _ => exact r1'.elim
        · exact p1.elim
      · exact p1.elim
    · exact p1.elim
  · exact p.elim
end
/-! ### loops -/
/-- J goes over the data ds, wherever Z stands -/
def WalkD (K : PySem.W.Frag) (Z : Hp) (J : It) (ds : List D) : Prop := ∃ (Gd : Hp → Prop) (Y : Nat → Hp → V → Hp → Prop), Walk J ds.length Gd Y ∧ (∀ H, Same Z H → Gd H) ∧
  ∀ i H x H' Z1, i < ds.length → Same Z Z1 → Same Z1 H → Y i H x H' → ∃ d Z', ds[i]? = some d ∧ Grow Z1 H Z' H' ∧ Rp K Z' x d
def ItR (K : PySem.W.Frag) : Rel (List D) It := fun Z ρ σ H J ds => WalkD K Z J ds
def ID (X : Cx) (G : Gm) (B : Wish) (tg iter : Expr) (o : O (List D)) : Prop := PI X tg iter fun σ H R => Run X.K G B (ItR X.K) o σ H R
theorem WalkD.mono {K : PySem.W.Frag} {Z Z' : Hp} {J : It} {ds : List D} (h : WalkD K Z J ds) (e : Same Z Z') : WalkD K Z' J ds := by
  obtain ⟨Gd, Y, w, h1, h2⟩ := h
  exact ⟨Gd, Y, w, fun H q => h1 H (e.trans q), fun i H x H' Z1 hi q => h2 i H x H' Z1 hi (e.trans q)⟩
def forL (g : D → Rho → Option Rho) (b : Os) : List D → Rho → Mo
  | [], ρ => .nx ρ
  | d :: ds, ρ => match g d ρ with
    | none => .st
    | some ρ1 => match b ρ1 with
      | .nx ρ2 => forL g b ds ρ2
      | .ct ρ2 => forL g b ds ρ2
      | .bk ρ2 => .nx ρ2
      | .rt r ρ2 => .rt r ρ2
      | .ex x ρ2 => .ex x ρ2
      | .st => .st
@[simp] theorem forL_nil (g : D → Rho → Option Rho) (b : Os) (ρ : Rho) : forL g b [] ρ = .nx ρ := rfl
theorem forL_cons (g : D → Rho → Option Rho) (b : Os) (d : D) (ds : List D) (ρ : Rho) : forL g b (d :: ds) ρ = match g d ρ with
    | none => .st
    | some ρ1 => match b ρ1 with
      | .nx ρ2 => forL g b ds ρ2
      | .ct ρ2 => forL g b ds ρ2
      | .bk ρ2 => .nx ρ2
      | .rt r ρ2 => .rt r ρ2
      | .ex x ρ2 => .ex x ρ2
      | .st => .st := rfl
def oFor (oi : O (List D)) (g : D → Rho → Option Rho) (b : Os) : Os := fun ρ => (oi ρ).bindS fun ds ρ1 => forL g b ds ρ1
section
variable {X : Cx} {G : Gm} {B : Wish} {tg iter c : Expr} {body : List Stmt} {pos : Pos}
theorem sd_for {T : List Nat} {oi : O (List D)} {g : D → Rho → Option Rho} {b : Os} (hp : PassesOwn (model X.prog X.w) X.A X.env X.xe) (hc : X.calm = true) (hi : ID X G B tg iter oi) (hg : GD X G tg T g) (hb : BD X G B body b)
    (hs : ∀ x, foldedSetIterable iter X.env x = pure x := by intro _; rfl) : SD X G B (.For tg iter body [] pos) (oFor oi g b) :=
  ps_imp (ps_for hp hc hi hg hb hs) fun D σ H w => runS_bind (C := fun (J : It) H1 => ∃ W : Nat → Nat → St → Hp → Prop, (∃ m, W 0 m σ H1) ∧ ∀ i m σ H, W i m σ H →
      (J.stop i H ∧ D.nx σ H) ∨ (J.go i H ∧ ∃ N : St → Hp → Prop, (∀ σ' H', N σ' H' → ∃ m', m' < m ∧ W (i + 1) m' σ' H') ∧ ∀ x H', J.yld i H x H' → gRun X.K G T g x σ H' fun σ2 H2 => RunS X.K G B b { D with nx := N, ct := N, bk := D.nx } σ2 H2)) w
    fun J ds ρ1 Z1 H1 S1 wd p1 => by
    obtain ⟨Gd, Y, wk, h1, h2⟩ := wd
    refine for_it wk (fun i σ' H' => ∃ Z ρ, Sim X.K G Z ρ σ' H' ∧ Same Z1 Z ∧ PostS X.K G B Z (forL g b (ds.drop i) ρ) D) ⟨Z1, ρ1, S1, .refl _, by rw [List.drop_zero]; exact p1⟩ (fun i σ' H' _ ⟨Z, ρ, S, e, _⟩ => h1 H' (e.trans S.zh)) ?_ ?_
    · rintro i x σ' H' H2 hi ⟨Z, ρ, S, e, p⟩ y
      obtain ⟨d, Z', hd, gr, rx⟩ := h2 i H' x H2 Z hi e S.zh y
      have hdr : ds.drop i = d :: ds.drop (i + 1) := by
        rw [List.drop_eq_getElem_cons hi]
        have q := (List.getElem?_eq_some_iff.mp hd).2
        rw [q]
      rw [hdr, forL_cons] at p
      cases hg1 : g d ρ with
      | none => rw [hg1] at p; exact p.elim
      | some ρ2 =>
        rw [hg1] at p
        dsimp only at p
        refine ⟨Z', ρ, d, ρ2, S.grow gr, rx, hg1, fun σ2 Z2 H3 _ _ e2 S2 => ⟨Z2, ρ2, S2, ?_⟩⟩
        have e3 : Same Z Z2 := gr.z.trans e2
        have e4 : Same Z1 Z2 := e.trans e3
        cases hb1 : b ρ2 with
        | st => rw [hb1] at p; exact p.elim
        | nx ρ3 =>
          rw [hb1] at p
          exact fun σ4 Z4 H4 e5 S4 => ⟨Z4, ρ3, S4, e4.trans e5, PostS.mono (m := forL g b (ds.drop (i + 1)) ρ3) p (e3.trans e5)⟩
        | ct ρ3 =>
          rw [hb1] at p
          exact fun σ4 Z4 H4 e5 S4 => ⟨Z4, ρ3, S4, e4.trans e5, PostS.mono (m := forL g b (ds.drop (i + 1)) ρ3) p (e3.trans e5)⟩
        | bk ρ3 =>
          rw [hb1] at p
          exact fun σ4 Z4 H4 e5 S4 => p σ4 Z4 H4 (e3.trans e5) S4
        | rt r ρ3 =>
          rw [hb1] at p
          exact fun v σ4 Z4 H4 e5 S4 => p v σ4 Z4 H4 (e3.trans e5) S4
        | ex x ρ3 =>
          rw [hb1] at p
          exact fun σ4 Z4 H4 e5 S4 => p σ4 Z4 H4 (e3.trans e5) S4
    · rintro σ' H' ⟨Z, ρ, S, e, p⟩
      rw [List.drop_length] at p
      exact p σ' Z H' (.refl _) S
end
/-! while -/
def whl (c : O Bool) (b : Os) : Nat → Rho → Mo
  | 0, _ => .st
  | n + 1, ρ => (c ρ).bindS fun t ρ1 => if t = true then match b ρ1 with
      | .nx ρ2 => whl c b n ρ2
      | .ct ρ2 => whl c b n ρ2
      | .bk ρ2 => .nx ρ2
      | .rt r ρ2 => .rt r ρ2
      | .ex x ρ2 => .ex x ρ2
      | .st => .st
    else .nx ρ1
theorem whl_succ (c : O Bool) (b : Os) (n : Nat) (ρ : Rho) : whl c b (n + 1) ρ = (c ρ).bindS fun t ρ1 => if t = true then match b ρ1 with
      | .nx ρ2 => whl c b n ρ2
      | .ct ρ2 => whl c b n ρ2
      | .bk ρ2 => .nx ρ2
      | .rt r ρ2 => .rt r ρ2
      | .ex x ρ2 => .ex x ρ2
      | .st => .st
    else .nx ρ1 := rfl
theorem whl_more (c : O Bool) (b : Os) : ∀ (n : Nat) (ρ : Rho), whl c b n ρ ≠ .st → whl c b (n + 1) ρ = whl c b n ρ
  | 0, _, h => absurd rfl h
  | n + 1, ρ, h => by
    rw [whl_succ] at h ⊢
    rw [whl_succ]
    cases hc : c ρ with
    | st => rw [hc] at h; exact absurd rfl h
    | ex x ρ1 => rfl
    | ok t ρ1 =>
      rw [hc] at h
      simp only [M.bindS_ok] at h ⊢
      by_cases ht : t = true
      · rw [if_pos ht] at h ⊢
        rw [if_pos ht]
        cases hb : b ρ1 with
        | nx ρ2 => rw [hb] at h; exact whl_more c b n ρ2 h
        | ct ρ2 => rw [hb] at h; exact whl_more c b n ρ2 h
        | st => rfl
        | bk ρ2 => rfl
        | rt r ρ2 => rfl
        | ex x ρ2 => rfl
      · rw [if_neg ht, if_neg ht]
theorem whl_le (c : O Bool) (b : Os) {n m : Nat} {ρ : Rho} (h : whl c b n ρ ≠ .st) (e : n ≤ m) : whl c b m ρ = whl c b n ρ := by
  induction e with
  | refl => rfl
  | step _ ih => rw [whl_more c b _ ρ (by rw [ih]; exact h)]; exact ih
open Classical in
noncomputable def oWhile (c : O Bool) (b : Os) : Os := fun ρ => if h : ∃ n, whl c b n ρ ≠ .st then whl c b (Classical.choose h) ρ else .st
theorem oWhile_eq {c : O Bool} {b : Os} {n : Nat} {ρ : Rho} (h : whl c b n ρ ≠ .st) : oWhile c b ρ = whl c b n ρ := by
  unfold oWhile
  have hx : ∃ n, whl c b n ρ ≠ .st := ⟨n, h⟩
  rw [dif_pos hx]
  have h1 := Classical.choose_spec hx
  rcases Nat.le_total n (Classical.choose hx) with e | e
  · exact whl_le c b h e
  · exact (whl_le c b h1 e).symm
theorem oWhile_is {c : O Bool} {b : Os} (n : Nat) {ρ : Rho} {m : Mo} (h : whl c b n ρ = m) (hm : m ≠ .st) : oWhile c b ρ = m := by
  rw [oWhile_eq (n := n) (by rw [h]; exact hm), h]
section
variable {X : Cx} {G : Gm} {B : Wish} {c : Expr} {body : List Stmt} {pos : Pos}
theorem sd_while {oc : O Bool} {b : Os} (hp : PassesOwn (model X.prog X.w) X.A X.env X.xe) (hc : TD X G B c oc) (hb : BD X G B body b) : SD X G B (.While c body [] pos) (oWhile oc b) := by
  refine ps_imp (ps_while hp hc hb) ?_
  rintro D σ H ⟨Z, ρ, S, p⟩
  obtain ⟨n, p⟩ : ∃ n, PostS X.K G B Z (whl oc b n ρ) D := by
    unfold oWhile at p
    split at p
    · exact ⟨_, p⟩
    · exact p.elim
  refine ⟨fun m σ H => ∃ Z ρ, Sim X.K G Z ρ σ H ∧ PostS X.K G B Z (whl oc b m ρ) D, ⟨n, Z, ρ, S, p⟩, ?_⟩
  rintro m σ1 H1 ⟨Z1, ρ1, S1, p1⟩
  cases m with
  | zero => exact p1.elim
  | succ m =>
    rw [whl_succ] at p1
    refine ⟨Z1, ρ1, S1, PostS.bind p1 fun t t' ρ2 Z2 H2 e2 S2 r2 p2 => ?_⟩
    have r2 : t = t' := r2
    subst r2
    cases t with
    | false => exact p2 σ1 Z2 H2 (.refl _) S2
    | true =>
      refine ⟨fun σ' H' => ∃ Z ρ, Sim X.K G Z ρ σ' H' ∧ PostS X.K G B Z (whl oc b m ρ) D, fun σ' H' q => ⟨m, Nat.lt_succ_self m, q⟩, Z2, ρ2, S2, ?_⟩
      have p3 : PostS X.K G B Z2 (match b ρ2 with
        | .nx ρ2 => whl oc b m ρ2
        | .ct ρ2 => whl oc b m ρ2
        | .bk ρ2 => .nx ρ2
        | .rt r ρ2 => .rt r ρ2
        | .ex x ρ2 => .ex x ρ2
        | .st => .st) D := p2
      cases hb1 : b ρ2 with
      | st => rw [hb1] at p3; exact p3.elim
      | nx ρ3 => rw [hb1] at p3; exact fun σ4 Z4 H4 e5 S4 => ⟨Z4, ρ3, S4, PostS.mono (m := whl oc b m ρ3) p3 e5⟩
      | ct ρ3 => rw [hb1] at p3; exact fun σ4 Z4 H4 e5 S4 => ⟨Z4, ρ3, S4, PostS.mono (m := whl oc b m ρ3) p3 e5⟩
      | bk ρ3 => rw [hb1] at p3; exact p3
      | rt r ρ3 => rw [hb1] at p3; exact p3
      | ex x ρ3 => rw [hb1] at p3; exact p3
end
end Ow
namespace Ow
open PySem L2 RZ
/-! ### what is gone over -/
theorem pi_imp {X : Cx} {tg e : Expr} {t t' : TI} (h : PI X tg e t) (k : ∀ σ H R, t' σ H R → t σ H R) : PI X tg e t' := ⟨fun pins s σ H R I w => h.run pins s σ H R I (k _ _ _ w)⟩
theorem pi_alt {X : Cx} {tg e : Expr} {t t' : TI} (h : PI X tg e t) (h' : PI X tg e t') : PI X tg e (fun σ H R => t σ H R ∨ t' σ H R) := ⟨fun pins s σ H R I w => w.elim (h.run pins s σ H R I) (h'.run pins s σ H R I)⟩
def signs (x : Str) : List D := x.cps.toList.map fun c => .str ⟨#[c]⟩
def itm1 (a : Va) (ρ : Rho) : M (List D) := match a with
  | .pu (.list ds) => .ok ds ρ
  | .pu (.tuple ds) => .ok ds ρ
  | .pu (.str x) => .ok (signs x) ρ
  | .pu (.dict [(.none, .list ds)]) => .ok ds ρ
  | .pu (.dict [(.bool true, .tuple ds)]) => .ok ds ρ
  | .rf i => match ρ[i]? with
    | some (.ow false (.li ds)) => .ok ds (ρ.set i (.pu (.list ds)))
    | _ => .st
  | _ => .st
@[simp] theorem itm1_list (ds : List D) (ρ : Rho) : itm1 (.pu (.list ds)) ρ = .ok ds ρ := rfl
@[simp] theorem itm1_tuple (ds : List D) (ρ : Rho) : itm1 (.pu (.tuple ds)) ρ = .ok ds ρ := rfl
@[simp] theorem itm1_str (x : Str) (ρ : Rho) : itm1 (.pu (.str x)) ρ = .ok (signs x) ρ := rfl
@[simp] theorem itm1_scr (ds : List D) (ρ : Rho) : itm1 (.pu (.dict [(.none, .list ds)])) ρ = .ok ds ρ := rfl
@[simp] theorem itm1_kon (ds : List D) (ρ : Rho) : itm1 (.pu (.dict [(.bool true, .tuple ds)])) ρ = .ok ds ρ := rfl
def oItm (o : O Va) : O (List D) := fun ρ => (o ρ).bind itm1
section
variable {K : PySem.W.Frag}
theorem walkD_list {Z : Hp} {a : Addr} {vs : List V} {ds : List D} (h : SqL K Z a vs) (r : RpAll K Z vs ds) : WalkD K Z (Itl K a) ds :=
  ⟨_, _, by rw [← r.length]; exact walk_list (K := K) (a := a) (xs := vs), fun H e => sqL_mono e h, fun i H x H' Z1 hi e e' y => by
    obtain ⟨rfl, hx⟩ := y
    obtain ⟨d, hd, rd⟩ := r.get' hx
    exact ⟨d, Z1, hd, .refl e', rd.mono e⟩⟩
theorem walkD_tup {Z : Hp} {a : Addr} {vs : List V} {ds : List D} (h : SqT K Z a vs) (r : RpAll K Z vs ds) : WalkD K Z (Itt K a) ds :=
  ⟨_, _, by rw [← r.length]; exact walk_tup (K := K) (a := a) (xs := vs), fun H e => sqT_mono e h, fun i H x H' Z1 hi e e' y => by
    obtain ⟨rfl, hx⟩ := y
    obtain ⟨d, hd, rd⟩ := r.get' hx
    exact ⟨d, Z1, hd, .refl e', rd.mono e⟩⟩
theorem walkD_str {Z : Hp} {x : Str} : WalkD K Z (Its x) (signs x) := by
  refine ⟨fun _ => True, fun i H v H' => H' = H ∧ ∃ c, x.cps[i]? = some c ∧ v = .str ⟨#[c]⟩, ?_, fun _ _ => trivial, fun i H v H' Z1 hi e e' y => ?_⟩
  · have hl : (signs x).length = x.cps.size := by unfold signs; rw [List.length_map, Array.length_toList]
    rw [hl]
    exact walk_str
  · obtain ⟨rfl, c, hc, rfl⟩ := y
    refine ⟨.str ⟨#[c]⟩, Z1, ?_, .refl e', .str _⟩
    unfold signs
    rw [List.getElem?_map, Array.getElem?_toList, hc]
    rfl
def rangeD (lo : Int) (n : Nat) : List D := (List.range n).map fun i => .int (lo + (i : Nat))
theorem walkD_range {Z : Hp} {lo : Int} {n : Nat} : WalkD K Z (Itr lo n) (rangeD lo n) := by
  refine ⟨fun _ => True, YFn fun i => .int (lo + i), ?_, fun _ _ => trivial, fun i H v H' Z1 hi e e' y => ?_⟩
  · have hl : (rangeD lo n).length = n := by unfold rangeD; rw [List.length_map, List.length_range]
    rw [hl]
    exact walk_range
  · obtain ⟨rfl, rfl⟩ := y
    refine ⟨.int (lo + i), Z1, ?_, .refl e', .int _⟩
    unfold rangeD at hi ⊢
    rw [List.length_map, List.length_range] at hi
    rw [List.getElem?_map, List.getElem?_range hi]
    rfl
def rangeC (lo c : Int) (n : Nat) : List D := (List.range n).map fun i => .int (lo + (i : Nat) * c)
theorem walkD_rangeC {Z : Hp} {lo c : Int} {n : Nat} : WalkD K Z (Itc lo c n) (rangeC lo c n) := by
  refine ⟨fun _ => True, YFn fun i => .int (lo + (i : Nat) * c), ?_, fun _ _ => trivial, fun i H v H' Z1 hi e e' y => ?_⟩
  · have hl : (rangeC lo c n).length = n := by unfold rangeC; rw [List.length_map, List.length_range]
    rw [hl]
    exact walk_rangeC
  · obtain ⟨rfl, rfl⟩ := y
    refine ⟨.int (lo + i * c), Z1, ?_, .refl e', .int _⟩
    unfold rangeC at hi ⊢
    rw [List.length_map, List.length_range] at hi
    rw [List.getElem?_map, List.getElem?_range hi]
    rfl
/-- pairs made on the way -/
def pairsD : List D → List D → List D
  | a :: as, b :: bs => .tuple [a, b] :: pairsD as bs
  | _, _ => []
theorem pairsD_get : ∀ {as bs : List D} {i : Nat} {a b : D}, as[i]? = some a → bs[i]? = some b → (pairsD as bs)[i]? = some (.tuple [a, b])
  | [], _, _, _, _, h, _ => by simp at h
  | _ :: _, [], _, _, _, _, h => by simp at h
  | a :: as, b :: bs, 0, _, _, h, h' => by simp at h h'; subst h; subst h'; rfl
  | _ :: as, _ :: bs, i + 1, _, _, h, h' => by
    show (pairsD as bs)[i]? = _
    exact pairsD_get (by simpa using h) (by simpa using h')
theorem pairsD_length : ∀ (as bs : List D), (pairsD as bs).length = min as.length bs.length
  | [], _ => by simp [pairsD]
  | _ :: _, [] => by simp [pairsD]
  | _ :: as, _ :: bs => by simp [pairsD, pairsD_length as bs]
def enumD (n : Nat) : List D → List D
  | [] => []
  | d :: ds => .tuple [.int (n : Nat), d] :: enumD (n + 1) ds
theorem enumD_get : ∀ {ds : List D} {n i : Nat} {d : D}, ds[i]? = some d → (enumD n ds)[i]? = some (.tuple [.int ((n + i : Nat) : Int), d])
  | [], _, _, _, h => by simp at h
  | d :: ds, n, 0, _, h => by simp at h; subst h; rfl
  | _ :: ds, n, i + 1, _, h => by
    show (enumD (n + 1) ds)[i]? = _
    rw [enumD_get (by simpa using h)]
    have e : n + 1 + i = n + (i + 1) := by omega
    rw [e]
theorem enumD_length : ∀ (n : Nat) (ds : List D), (enumD n ds).length = ds.length
  | _, [] => rfl
  | n, _ :: ds => by simp [enumD, enumD_length (n + 1) ds]
theorem pair_still {Z H : Hp} (e : Same Z H) {T : Addr} {x y : V} {a b : D} (h : H T = none) (rx : Rp K Z x a) (ry : Rp K Z y b) : ∃ Z', Grow Z H Z' (upd H T (.tup [x, y])) ∧ Rp K Z' (.ref T) (.tuple [a, b]) := by
  have g := Grow.still e h (.tup [x, y])
  exact ⟨_, g, .tup upd_same (.cons (rx.mono g.z) (.cons (ry.mono g.z) .nil))⟩
theorem walkD_enum {Z : Hp} {a : Addr} {vs : List V} {ds : List D} (h : SqL K Z a vs) (r : RpAll K Z vs ds) : WalkD K Z (Ite K a) (enumD 0 ds) :=
  ⟨_, _, by rw [enumD_length, ← r.length]; exact walk_enum (K := K) (a := a) (xs := vs), fun H e => sqL_mono e h, fun i H x H' Z1 hi e e' y => by
    obtain ⟨T, u, v, rfl, hT, rfl, h1, h2⟩ := y
    cases h1
    obtain ⟨d, hd, rd⟩ := r.get' h2
    obtain ⟨Z', g, r'⟩ := pair_still e' hT (.int (i : Nat)) (rd.mono e)
    refine ⟨_, Z', enumD_get hd, g, ?_⟩
    rw [Nat.zero_add]
    exact r'⟩
theorem walkD_zip {Z : Hp} {a b : Addr} {vs ws : List V} {ds es : List D} (h : SqL K Z a vs) (r : RpAll K Z vs ds) (h' : SqL K Z b ws) (r' : RpAll K Z ws es) : WalkD K Z (Itz K a b) (pairsD ds es) :=
  ⟨_, _, walk_zip (K := K) (a := a) (b := b) (xs := vs) (ys := ws) (by rw [pairsD_length, r.length, r'.length]), fun H e => ⟨sqL_mono e h, sqL_mono e h'⟩, fun i H x H' Z1 hi e e' y => by
    obtain ⟨T, u, v, rfl, hT, rfl, h1, h2⟩ := y
    obtain ⟨d, hd, rd⟩ := r.get' h1
    obtain ⟨d', hd', rd'⟩ := r'.get' h2
    obtain ⟨Z', g, q⟩ := pair_still e' hT (rd.mono e) (rd'.mono e)
    exact ⟨_, Z', pairsD_get hd hd', g, q⟩⟩
theorem walk_zipT {a b : Addr} {xs ys : List V} {n : Nat} (hn : n = min xs.length ys.length) : Walk (ItzT K a b) n (fun H => SqT K H a xs ∧ SqT K H b ys) (YPair (fun i => xs[i]?) (fun i => ys[i]?)) := by
  subst hn
  refine ⟨fun i H hi ⟨h1, h2⟩ => ⟨xs, ys, xs[i]'(by omega), ys[i]'(by omega), h1, h2, by simp, by simp⟩, fun H ⟨h1, h2⟩ => ⟨xs, ys, h1, h2, by omega⟩, fun i H x H' hi ⟨h1, h2⟩ y => ?_⟩
  obtain ⟨T, u, v, e1, e2, e3, e4, e5⟩ := y
  exact ⟨T, u, v, e1, e2, e3, e4 xs h1, e5 ys h2⟩
theorem walkD_zipT {Z : Hp} {a b : Addr} {vs ws : List V} {ds es : List D} (h : SqT K Z a vs) (r : RpAll K Z vs ds) (h' : SqT K Z b ws) (r' : RpAll K Z ws es) : WalkD K Z (ItzT K a b) (pairsD ds es) :=
  ⟨_, _, walk_zipT (K := K) (a := a) (b := b) (xs := vs) (ys := ws) (by rw [pairsD_length, r.length, r'.length]), fun H e => ⟨sqT_mono e h, sqT_mono e h'⟩, fun i H x H' Z1 hi e e' y => by
    obtain ⟨T, u, v, rfl, hT, rfl, h1, h2⟩ := y
    obtain ⟨d, hd, rd⟩ := r.get' h1
    obtain ⟨d', hd', rd'⟩ := r'.get' h2
    obtain ⟨Z', g, q⟩ := pair_still e' hT (rd.mono e) (rd'.mono e)
    exact ⟨_, Z', pairsD_get hd hd', g, q⟩⟩
end
section
variable {X : Cx} {G : Gm} {B : Wish} {tg e e2 : Expr} {p pos tpos : Pos} {elts : List Expr} {kk : Nat}
/-- a sequence: a list, a tuple, a text -/
theorem id_seq {o : O Va} (h : ED X G B e o) : ID X G B tg e (oItm o) := by
  refine pi_imp (pi_alt (pi_list h) (pi_alt (pi_tup h) (pi_str h))) ?_
  rintro σ H R ⟨Z, ρ, S, p⟩
  unfold oItm at p
  cases ha : o ρ with
  | st => rw [ha] at p; exact p.elim
  | ex x ρ1 =>
    rw [ha] at p
    refine .inl ⟨Z, ρ, S, ?_⟩
    rw [ha]
    exact p
  | ok a ρ1 =>
    rw [ha] at p
    replace p : Post X.K G B (ItR X.K) σ Z (itm1 a ρ1) R := p
    unfold itm1 at p
    split at p
    · rename_i ds
      refine .inl ⟨Z, ρ, S, ?_⟩
      rw [ha]
      intro x Z1 H1 e1 S1 r1
      replace r1 : Rp X.K Z1 x (.list ds) := r1
      cases r1 with
      | lst h1 h2 => exact ⟨_, rfl, ⟨_, SqL.of (S1.zh _ _ h1)⟩, p _ Z1 H1 e1 S1 (walkD_list (SqL.of h1) h2)⟩
    · rename_i ds
      refine .inr (.inl ⟨Z, ρ, S, ?_⟩)
      rw [ha]
      intro x Z1 H1 e1 S1 r1
      replace r1 : Rp X.K Z1 x (.tuple ds) := r1
      cases r1 with
      | tup h1 h2 => exact ⟨_, rfl, ⟨_, SqT.of (S1.zh _ _ h1)⟩, p _ Z1 H1 e1 S1 (walkD_tup (SqT.of h1) h2)⟩
    · rename_i y
      refine .inr (.inr ⟨Z, ρ, S, ?_⟩)
      rw [ha]
      intro x Z1 H1 e1 S1 r1
      replace r1 : Rp X.K Z1 x (.str y) := r1
      cases r1
      exact ⟨y, rfl, p _ Z1 H1 e1 S1 walkD_str⟩
    · rename_i ds
      refine .inl ⟨Z, ρ, S, ?_⟩
      rw [ha]
      intro x Z1 H1 e1 S1 r1
      replace r1 : Rp X.K Z1 x (scr ds) := r1
      cases r1 with
      | frz h1 h2 => exact ⟨_, rfl, ⟨_, sqL_mono S1.zh h1⟩, p _ Z1 H1 e1 S1 (walkD_list h1 h2)⟩
    · rename_i ds
      refine .inr (.inl ⟨Z, ρ, S, ?_⟩)
      rw [ha]
      intro x Z1 H1 e1 S1 r1
      replace r1 : Rp X.K Z1 x (kon ds) := r1
      cases r1 with
      | kon h1 h2 => exact ⟨_, rfl, ⟨_, sqT_mono S1.zh h1⟩, p _ Z1 H1 e1 S1 (walkD_tup h1 h2)⟩
    · rename_i i
      split at p
      · rename_i ds hr
        refine .inl ⟨Z, ρ, S, ?_⟩
        rw [ha]
        intro x Z1 H1 e1 S1 r1
        replace r1 : σ[i]? = some (some x) := r1
        obtain ⟨b, vs, q, hb, rb, z, S2⟩ := S1.freezeSlot hr
        rw [q] at r1
        cases r1
        have e2 := same_upd z (.lst vs)
        exact ⟨b, rfl, ⟨vs, SqL.of hb⟩, p _ _ H1 (e1.trans e2) S2 (walkD_list (SqL.of upd_same) (rb.mono e2))⟩
      · exact p.elim
    · exact p.elim
def rg1 (ds : List D) (ρ : Rho) : M (List D) := match ds with
  | [.int j] => if j.natAbs < 4611686018427387904 then .ok (rangeD 0 j.toNat) ρ else .st
  | _ => .st
def rg2 (ds : List D) (ρ : Rho) : M (List D) := match ds with
  | [.int i, .int j] => if i.natAbs < 4611686018427387904 ∧ j.natAbs < 4611686018427387904 then .ok (rangeD i (j - i).toNat) ρ else .st
  | _ => .st
/-- a range with a step -/
def rgN (i j c : Int) : Nat := (Builtin.Range.rangeSize i j c).toNat
def rg3 (ds : List D) (ρ : Rho) : M (List D) := match ds with
  | [.int i, .int j, .int c] => if c ≠ 0 ∧ c.natAbs < 1073741824 ∧ Builtin.Range.small i j c = true ∧ 0 ≤ Builtin.Range.rangeSize i j c then .ok (rangeC i c (rgN i j c)) ρ else .st
  | _ => .st
def oRange (o : O (List D)) : O (List D) := fun ρ => (o ρ).bind rg1
def oRange2 (o : O (List D)) : O (List D) := fun ρ => (o ρ).bind rg2
def oRange3 (o : O (List D)) : O (List D) := fun ρ => (o ρ).bind rg3
theorem id_range1 {o : O (List D)} (hg : Gl X "range") (hm : X.mg "range" = none) (ha : QD X G B [e] o) (hs : starEach [e] X.env = [(false, eval e X.env)] := by rfl) : ID X G B tg (.Call (.Name "range" p) [e] [] pos) (oRange o) :=
  pi_imp (pi_range1 hg hm ha hs) fun σ H R w => run_imp (C := fun (vs : List V) H1 => ∃ j : Int, vs = [.int j] ∧ -(2 ^ 62) ≤ j ∧ j < 2 ^ 62 ∧ R (Itr 0 j.toNat) H1) w fun vs ds ρ1 Z1 H1 S1 r1 p1 => by
    unfold rg1 at p1
    split at p1
    · split at p1
      · rename_i j hj
        replace r1 : RpAll X.K Z1 vs [.int j] := r1
        cases r1 with
        | cons h1 h2 =>
          cases h1
          cases h2
          exact ⟨j, rfl, by omega, by omega, p1 _ Z1 H1 (.refl _) S1 walkD_range⟩
      · exact p1.elim
    · exact p1.elim
theorem id_range2 {o : O (List D)} (hg : Gl X "range") (hm : X.mg "range" = none) (ha : QD X G B [e, e2] o) (hs : starEach [e, e2] X.env = [(false, eval e X.env), (false, eval e2 X.env)] := by rfl) (hs2 : starEach [e2] X.env = [(false, eval e2 X.env)] := by rfl) :
    ID X G B tg (.Call (.Name "range" p) [e, e2] [] pos) (oRange2 o) :=
  pi_imp (pi_range2 hg hm ha hs hs2) fun σ H R w => run_imp (C := fun (vs : List V) H1 => ∃ i j : Int, vs = [.int i, .int j] ∧ (-(2 ^ 62) ≤ i ∧ i < 2 ^ 62 ∧ -(2 ^ 62) ≤ j ∧ j < 2 ^ 62) ∧ R (Itr i (j - i).toNat) H1) w fun vs ds ρ1 Z1 H1 S1 r1 p1 => by
    unfold rg2 at p1
    split at p1
    · split at p1
      · rename_i i j hj
        replace r1 : RpAll X.K Z1 vs [.int i, .int j] := r1
        cases r1 with
        | cons h1 h2 =>
          cases h1
          cases h2 with
          | cons h2 h3 =>
            cases h2
            cases h3
            exact ⟨i, j, rfl, by omega, p1 _ Z1 H1 (.refl _) S1 walkD_range⟩
      · exact p1.elim
    · exact p1.elim
theorem id_range3 {e3 : Expr} {o : O (List D)} (hg : Gl X "range") (hm : X.mg "range" = none) (ha : QD X G B [e, e2, e3] o) (hs : starEach [e, e2, e3] X.env = (false, eval e X.env) :: starEach [e2, e3] X.env := by rfl) (hpl : (backTo pos (starEach [e2, e3] X.env)).any (·.1) = false := by rfl) :
    ID X G B tg (.Call (.Name "range" p) [e, e2, e3] [] pos) (oRange3 o) :=
  pi_imp (pi_range3 hg hm ha hs hpl) fun σ H R w => run_imp (C := fun (vs : List V) H1 => ∃ (i j c : Int) (n : Nat), vs = [.int i, .int j, .int c] ∧ RgC i j c n ∧ R (Itc i c n) H1) w fun vs ds ρ1 Z1 H1 S1 r1 p1 => by
    unfold rg3 at p1
    split at p1
    · split at p1
      · rename_i i j c hj
        replace r1 : RpAll X.K Z1 vs [.int i, .int j, .int c] := r1
        cases r1 with
        | cons h1 h2 =>
          cases h1
          cases h2 with
          | cons h2 h3 =>
            cases h2
            cases h3 with
            | cons h3 h4 =>
              cases h3
              cases h4
              exact ⟨i, j, c, rgN i j c, rfl, ⟨hj.1, hj.2.1, hj.2.2.1, by unfold rgN; omega⟩, p1 _ Z1 H1 (.refl _) S1 walkD_rangeC⟩
      · exact p1.elim
    · exact p1.elim
def en1 (d : D) (ρ : Rho) : M (List D) := match d with
  | .list ds => .ok (enumD 0 ds) ρ
  | _ => .st
def oEnumL (o : O D) : O (List D) := fun ρ => (o ρ).bind en1
def zp1 (ds : List D) (ρ : Rho) : M (List D) := match ds with
  | [.list xs, .list ys] => .ok (pairsD xs ys) ρ
  | [.tuple xs, .tuple ys] => .ok (pairsD xs ys) ρ
  | [.tuple xs, .dict [(.bool true, .tuple ys)]] => .ok (pairsD xs ys) ρ
  | _ => .st
def oZip (o : O (List D)) : O (List D) := fun ρ => (o ρ).bind zp1
theorem id_zip {o : O (List D)} (hg : Gl X "zip") (hm : X.mg "zip" = none) (ha : QD X G B [e, e2] o)
    (hs : starEach [e, e2] X.env = (false, eval e X.env) :: starEach [e2] X.env := by rfl) (hpl : (backTo pos (starEach [e2] X.env)).any (·.1) = false := by rfl) :
    ID X G B (.Tuple elts kk tpos) (.Call (.Name "zip" p) [e, e2] [] pos) (oZip o) :=
  pi_imp (pi_zipA hg hm ha hs hpl) fun σ H R w => run_imp (C := fun (vs : List V) H1 => ∃ a b xs ys, vs = [.ref a, .ref b] ∧ ((SqL X.K H1 a xs ∧ SqL X.K H1 b ys ∧ R (Itz X.K a b) H1) ∨ (SqT X.K H1 a xs ∧ SqT X.K H1 b ys ∧ R (ItzT X.K a b) H1))) w fun vs ds ρ1 Z1 H1 S1 r1 p1 => by
    unfold zp1 at p1
    split at p1
    · rename_i xs ys
      replace r1 : RpAll X.K Z1 vs [.list xs, .list ys] := r1
      cases r1 with
      | cons h1 h2 =>
        cases h2 with
        | cons h2 h3 =>
          cases h3
          cases h1 with
          | lst a1 a2 =>
            cases h2 with
            | lst b1 b2 => exact ⟨_, _, _, _, rfl, .inl ⟨SqL.of (S1.zh _ _ a1), SqL.of (S1.zh _ _ b1), p1 _ Z1 H1 (.refl _) S1 (walkD_zip (SqL.of a1) a2 (SqL.of b1) b2)⟩⟩
    · rename_i xs ys
      replace r1 : RpAll X.K Z1 vs [.tuple xs, .tuple ys] := r1
      cases r1 with
      | cons h1 h2 =>
        cases h2 with
        | cons h2 h3 =>
          cases h3
          cases h1 with
          | tup a1 a2 =>
            cases h2 with
            | tup b1 b2 => exact ⟨_, _, _, _, rfl, .inr ⟨SqT.of (S1.zh _ _ a1), SqT.of (S1.zh _ _ b1), p1 _ Z1 H1 (.refl _) S1 (walkD_zipT (SqT.of a1) a2 (SqT.of b1) b2)⟩⟩
    · rename_i xs ys
      replace r1 : RpAll X.K Z1 vs [.tuple xs, kon ys] := r1
      cases r1 with
      | cons h1 h2 =>
        cases h2 with
        | cons h2 h3 =>
          cases h3
          cases h1 with
          | tup a1 a2 =>
            cases h2 with
            | kon b1 b2 => exact ⟨_, _, _, _, rfl, .inr ⟨SqT.of (S1.zh _ _ a1), sqT_mono S1.zh b1, p1 _ Z1 H1 (.refl _) S1 (walkD_zipT (SqT.of a1) a2 b1 b2)⟩⟩
    · exact p1.elim
theorem id_enumL {o : O D} (hg : Gl X "enumerate") (hm : X.mg "enumerate" = none) (ha : PD X G B e o) (hs : starEach [e] X.env = [(false, eval e X.env)] := by rfl) (hs' : starEach [e] X.env = (false, eval e X.env) :: starEach [] X.env := by rfl) :
    ID X G B (.Tuple elts kk tpos) (.Call (.Name "enumerate" p) [e] [] pos) (oEnumL o) :=
  pi_imp (pi_enum hg hm (pa_cons ha pa_nil hs') hs) fun σ H R w => run_imp (C := fun (v : V) H1 => ∃ a xs, [v] = [.ref a] ∧ SqL X.K H1 a xs ∧ R (Ite X.K a) H1) w fun v d ρ1 Z1 H1 S1 r1 p1 => by
    unfold en1 at p1
    split at p1
    · rename_i ds
      replace r1 : Rp X.K Z1 v (.list ds) := r1
      cases r1 with
      | lst a1 a2 => exact ⟨_, _, rfl, SqL.of (S1.zh _ _ a1), p1 _ Z1 H1 (.refl _) S1 (walkD_enum (SqL.of a1) a2)⟩
    · exact p1.elim
end
end Ow
namespace Ow
open PySem L2
/-! ### list comprehensions -/
def noB : Wish := fun _ _ _ _ _ => False
def wipeR (ρ : Rho) : List Nat → Rho
  | [] => ρ
  | v :: vs => (wipeR ρ vs).set v .no
def restR (ρ0 ρ : Rho) : List Nat → Rho
  | [] => ρ
  | v :: vs => (restR ρ0 ρ vs).set v (ρ0.getD v .no)
def loose (s : Option Sl) : Bool := match s with
  | some .no => true
  | some (.pu _) => true
  | _ => false
def okW (ρ : Rho) (vs : List Nat) : Bool := vs.all fun v => loose ρ[v]?
def lcL (vs : List Nat) (g : D → Rho → Option Rho) (ot : O Bool) (oe : O D) : List D → Rho → M (List D)
  | [], ρ => .ok [] ρ
  | d :: ds, ρ => match g d ρ with
    | none => .st
    | some ρ1 => match ot ρ1 with
      | .ok true ρ2 => match oe ρ2 with
        | .ok y ρ3 => (lcL vs g ot oe ds (wipeR ρ3 vs)).bind fun ys ρ4 => .ok (y :: ys) ρ4
        | _ => .st
      | .ok false ρ2 => lcL vs g ot oe ds (wipeR ρ2 vs)
      | _ => .st
@[simp] theorem lcL_nil (vs : List Nat) (g : D → Rho → Option Rho) (ot : O Bool) (oe : O D) (ρ : Rho) : lcL vs g ot oe [] ρ = .ok [] ρ := rfl
theorem lcL_cons (vs : List Nat) (g : D → Rho → Option Rho) (ot : O Bool) (oe : O D) (d : D) (ds : List D) (ρ : Rho) : lcL vs g ot oe (d :: ds) ρ = match g d ρ with
    | none => .st
    | some ρ1 => match ot ρ1 with
      | .ok true ρ2 => match oe ρ2 with
        | .ok y ρ3 => (lcL vs g ot oe ds (wipeR ρ3 vs)).bind fun ys ρ4 => .ok (y :: ys) ρ4
        | _ => .st
      | .ok false ρ2 => lcL vs g ot oe ds (wipeR ρ2 vs)
      | _ => .st := rfl
def lcE (vs : List Nat) (ρ1 : Rho) (m : M (List D)) : M Rs := match m with
  | .ok ys ρ2 => .ok (.nw (.li ys)) (restR ρ1 ρ2 vs)
  | _ => .st
def lc1 (vs : List Nat) (g : D → Rho → Option Rho) (ot : O Bool) (oe : O D) (ds : List D) (ρ1 : Rho) : M Rs :=
  if okW ρ1 vs = true ∧ ds.length ≤ 16000000 then lcE vs ρ1 (lcL vs g ot oe ds (wipeR ρ1 vs)) else .st
def oLc (vs : List Nat) (oi : O (List D)) (g : D → Rho → Option Rho) (ot : O Bool) (oe : O D) : O Rs := fun ρ => (oi ρ).bind (lc1 vs g ot oe)
def oYes : O Bool := fun ρ => .ok true ρ
@[simp] theorem oYes_eq (ρ : Rho) : oYes ρ = .ok true ρ := rfl

theorem wipeR_length (ρ : Rho) : ∀ vs : List Nat, (wipeR ρ vs).length = ρ.length
  | [] => rfl
  | v :: vs => by unfold wipeR; rw [List.length_set, wipeR_length ρ vs]
theorem restR_length (ρ0 ρ : Rho) : ∀ vs : List Nat, (restR ρ0 ρ vs).length = ρ.length
  | [] => rfl
  | v :: vs => by unfold restR; rw [List.length_set, restR_length ρ0 ρ vs]
theorem wipeR_get (ρ : Rho) (j : Nat) : ∀ vs : List Nat, (wipeR ρ vs)[j]? = if j ∈ vs then (if j < ρ.length then some .no else none) else ρ[j]?
  | [] => by simp [wipeR]
  | v :: vs => by
    unfold wipeR
    by_cases h : v = j
    · subst h
      rw [List.getElem?_set]
      simp [wipeR_length]
    · rw [List.getElem?_set_ne h, wipeR_get ρ j vs]
      have q : (j ∈ v :: vs) ↔ (j ∈ vs) := by simp [List.mem_cons, Ne.symm h]
      by_cases hm : j ∈ vs
      · rw [if_pos hm, if_pos (q.mpr hm)]
      · rw [if_neg hm, if_neg (fun e => hm (q.mp e))]
theorem wipe_get (σ : St) (j : Nat) : ∀ vs : List Nat, (wipe σ vs)[j]? = if j ∈ vs then (if j < σ.length then some none else none) else σ[j]?
  | [] => by simp [wipe]
  | v :: vs => by
    unfold wipe
    by_cases h : v = j
    · subst h
      rw [List.getElem?_set]
      simp [wipe_length]
    · rw [List.getElem?_set_ne h, wipe_get σ j vs]
      have q : (j ∈ v :: vs) ↔ (j ∈ vs) := by simp [List.mem_cons, Ne.symm h]
      by_cases hm : j ∈ vs
      · rw [if_pos hm, if_pos (q.mpr hm)]
      · rw [if_neg hm, if_neg (fun e => hm (q.mp e))]
theorem restR_get (ρ0 ρ : Rho) (j : Nat) (hl : ρ0.length = ρ.length) : ∀ vs : List Nat, (restR ρ0 ρ vs)[j]? = if j ∈ vs then ρ0[j]? else ρ[j]?
  | [] => by simp [restR]
  | v :: vs => by
    unfold restR
    by_cases h : v = j
    · subst h
      rw [List.getElem?_set]
      simp only [if_true, restR_length, List.mem_cons, true_or]
      by_cases hv : v < ρ.length
      · rw [if_pos hv, List.getD_eq_getElem?_getD, List.getElem?_eq_getElem (by omega)]
        rfl
      · rw [if_neg hv, List.getElem?_eq_none (by omega)]
    · rw [List.getElem?_set_ne h, restR_get ρ0 ρ j hl vs]
      have q : (j ∈ v :: vs) ↔ (j ∈ vs) := by simp [List.mem_cons, Ne.symm h]
      by_cases hm : j ∈ vs
      · rw [if_pos hm, if_pos (q.mpr hm)]
      · rw [if_neg hm, if_neg (fun e => hm (q.mp e))]
theorem wipe_same {σ σ' : St} {vs : List Nat} (hl : σ'.length = σ.length) (h : ∀ j : Nat, j ∉ vs → σ'[j]? = σ[j]?) : wipe σ' vs = wipe σ vs := by
  refine List.ext_getElem? fun j => ?_
  rw [wipe_get, wipe_get, hl]
  by_cases hj : j ∈ vs
  · rw [if_pos hj, if_pos hj]
  · rw [if_neg hj, if_neg hj, h j hj]
theorem wipe_wipe (σ : St) (vs : List Nat) : wipe (wipe σ vs) vs = wipe σ vs := by
  refine List.ext_getElem? fun j => ?_
  rw [wipe_get, wipe_get, wipe_length]
  by_cases hj : j ∈ vs
  · rw [if_pos hj, if_pos hj]
  · rw [if_neg hj, if_neg hj]
/-- a thing of ours that stands beside the slots -/
def Gm.ghost (G : Gm) (a : Addr) (o : HO) : Gm := { G with H0 := upd G.H0 a o }
section
variable {K : PySem.W.Frag} {G : Gm} {Z : Hp} {ρ ρ' : Rho} {σ : St} {H : Hp} {a : Addr} {o : HO} {vs : List Nat}
theorem Sim.toGhost (S : Sim K G Z ρ σ H) (ho : H a = some o) (z : Z a = none) (n : NewA ρ σ H a) : Sim K (G.ghost a o) Z ρ σ H where
  zz := S.zz
  zh := S.zh
  fr := fun b u e l => by
    by_cases hb : b = a
    · subst hb
      have e' : upd G.H0 b o b = some u := e
      rw [upd_same] at e'
      cases e'
      exact ho
    · have e' : upd G.H0 a o b = some u := e
      rw [upd_ne hb] at e'
      exact S.fr b u e' l
  nw := fun b u e => by
    rcases S.nw b u e with q | q
    · exact .inl q
    · refine .inr ?_
      show upd G.H0 a o b = none
      have hb : b ≠ a := fun e' => by subst e'; rw [z] at e; cases e
      rw [upd_ne hb]
      exact q
  pu := S.pu
  ow := fun i p c e => by
    obtain ⟨b, u, q, hu, r, zb, l, nb⟩ := S.ow i p c e
    refine ⟨b, u, q, hu, r, zb, l, fun hp => ?_⟩
    show upd G.H0 a o b = none
    have hb : b ≠ a := fun e' => by subst e'; exact n.1 i p c e q
    rw [upd_ne hb]
    exact nb hp
  ne := S.ne
  pin := S.pin
  len := S.len
  lx := S.lx.frame (fun _ _ e => ⟨e, rfl⟩) (fun _ _ _ e => ⟨e, rfl⟩) (.refl _) fun b u f zb gn w hu => ⟨hu, zb, (by
    show upd G.H0 a o b = none
    rw [upd_ne]
    · exact gn
    · intro e; subst e; exact n.2 f), w⟩
theorem NewA.heap {ρ : Rho} {σ : St} {K : PySem.W.Frag} {G : Gm} {Z H H' : Hp} {a : Addr} (n : NewA ρ σ H a) (L : LX K G Z ρ σ H) (hk : ∀ b o, InF ρ σ H b → H b = some o → H' b = some o) : NewA ρ σ H' a := ⟨n.1, fun q => n.2 (L.back hk q)⟩
theorem NewA.wipe {ρ : Rho} {σ : St} {H : Hp} {a : Addr} {vs : List Nat} (n : NewA ρ σ H a) : NewA (wipeR ρ vs) (wipe σ vs) H a := by
  refine ⟨fun i p c hi q => ?_, fun f => ?_⟩
  · rw [wipeR_get] at hi
    by_cases hj : i ∈ vs
    · rw [if_pos hj] at hi
      split at hi <;> cases hi
    · rw [if_neg hj] at hi
      rw [wipe_get, if_neg hj] at q
      exact n.1 i p c hi q
  · obtain ⟨i, xss, b, bs, hi, q, h3, h4⟩ := f
    rw [wipeR_get] at hi
    by_cases hj : i ∈ vs
    · rw [if_pos hj] at hi
      split at hi <;> cases hi
    · rw [if_neg hj] at hi
      rw [wipe_get, if_neg hj] at q
      exact n.2 ⟨i, xss, b, bs, hi, q, h3, h4⟩
theorem Sim.notLent (S : Sim K G Z ρ σ H) (n : ∀ (i : Nat) p c, ρ[i]? = some (Sl.ow p c) → σ[i]? ≠ some (some (V.ref a))) : ¬ G.lent a := fun l => by
  obtain ⟨i, c, _, q, hc, _⟩ := S.lentIn l
  exact n i _ c hc q
theorem Sim.ofGhost (S : Sim K (G.ghost a o) Z ρ σ H) (h0 : G.H0 a = none) (hz : G.Z0 a = none) (hl : ¬ G.lent a) :
    Sim K G Z ρ σ H ∧ H a = some o ∧ Z a = none ∧ NewA ρ σ H a := by
  have up : ∀ b, (G.ghost a o).H0 b = none → G.H0 b = none := fun b e => by
    by_cases hb : b = a
    · subst hb; exact h0
    · have e' : upd G.H0 a o b = none := e
      rw [upd_ne hb] at e'
      exact e'
  have nself : (G.ghost a o).H0 a ≠ none := fun e => by
    have e' : upd G.H0 a o a = none := e
    rw [upd_same] at e'
    cases e'
  refine ⟨⟨S.zz, S.zh, fun b u e l => S.fr b u ?_ l, fun b u e => (S.nw b u e).imp (fun q => q) (up b), S.pu, fun i p c e => ?_, S.ne, S.pin, S.len, S.lx.frame (fun _ _ e => ⟨e, rfl⟩) (fun _ _ _ e => ⟨e, rfl⟩) (.refl _) fun b u f zb gn w hu => ⟨hu, zb, up b gn, w⟩⟩, S.fr a o ?_ hl, ?_, fun i p c e q => ?_, fun f => nself (S.lx.live f).2.2.1⟩
  · show upd G.H0 a o b = some u
    rw [upd_ne (ne_of_none e h0)]
    exact e
  · obtain ⟨b, u, q, hu, r, zb, l, nb⟩ := S.ow i p c e
    exact ⟨b, u, q, hu, r, zb, l, fun hp => up b (nb hp)⟩
  · show upd G.H0 a o a = some o
    exact upd_same
  · cases e : Z a with
    | none => rfl
    | some u =>
      rcases S.nw a u e with q | q
      · have q' : G.Z0 a = some u := q
        rw [hz] at q'; cases q'
      · exact absurd q nself
  · obtain ⟨b, u, q', hu, r, zb, l, nb⟩ := S.ow i p c e
    rw [q] at q'
    cases q'
    cases p with
    | true => exact hl (l rfl)
    | false => exact nself (nb rfl)
theorem Sim.wipes (S : Sim K G Z ρ σ H) (hv : ∀ v ∈ vs, ∀ x, (v, x) ∉ G.pins) : Sim K G Z (wipeR ρ vs) (wipe σ vs) H := by
  have g : ∀ (j : Nat) s, (wipeR ρ vs)[j]? = some s → s ≠ .no → j ∉ vs ∧ ρ[j]? = some s := fun j s e n => by
    rw [wipeR_get] at e
    by_cases hj : j ∈ vs
    · rw [if_pos hj] at e
      split at e
      · cases e; exact absurd rfl n
      · cases e
    · rw [if_neg hj] at e; exact ⟨hj, e⟩
  have gs : ∀ j : Nat, j ∉ vs → (wipe σ vs)[j]? = σ[j]? := fun j hj => by rw [wipe_get, if_neg hj]
  refine ⟨S.zz, S.zh, S.fr, S.nw, fun j d e => ?_, fun j p c e => ?_, fun j k p q c d n e1 e2 => ?_, fun j x hj => ?_, by rw [wipeR_length, wipe_length]; exact S.len, S.lx.frame (fun j xss e => ⟨(g j _ e (by simp)).2, gs j (g j _ e (by simp)).1⟩) (fun j k m e => ⟨(g j _ e (by simp)).2, gs j (g j _ e (by simp)).1⟩) (.refl _) fun b u f zb gn w hu => ⟨hu, zb, gn, fun j p c e => by rw [gs j (g j _ e (by simp)).1]; exact w j p c (g j _ e (by simp)).2⟩⟩
  · obtain ⟨hj, e⟩ := g j _ e (by simp); rw [gs j hj]; exact S.pu j d e
  · obtain ⟨hj, e⟩ := g j _ e (by simp); rw [gs j hj]; exact S.ow j p c e
  · obtain ⟨hj, e1⟩ := g j _ e1 (by simp)
    obtain ⟨hk, e2⟩ := g k _ e2 (by simp)
    rw [gs j hj, gs k hk]
    exact S.ne j k p q c d n e1 e2
  · have nv : j ∉ vs := fun m => hv j m x hj
    rw [gs j nv, wipeR_get, if_neg nv]
    exact S.pin j x hj
theorem Sim.rests {Z1 H1 : Hp} {ρ1 : Rho} (S1 : Sim K G Z1 ρ1 σ H1) (S : Sim K G Z ρ (wipe σ vs) H) (e : Same Z1 Z) (hw : okW ρ1 vs = true) : Sim K G Z (restR ρ1 ρ vs) σ H := by
  have hl : ρ1.length = ρ.length := by rw [S1.len, S.len, wipe_length]
  have gs : ∀ j : Nat, j ∉ vs → (wipe σ vs)[j]? = σ[j]? := fun j hj => by rw [wipe_get, if_neg hj]
  have ok : ∀ v ∈ vs, loose ρ1[v]? = true := fun v hv => List.all_eq_true.mp hw v hv
  have g : ∀ (j : Nat) p c, (restR ρ1 ρ vs)[j]? = some (Sl.ow p c) → j ∉ vs ∧ ρ[j]? = some (Sl.ow p c) := fun j p c e => by
    rw [restR_get ρ1 ρ j hl] at e
    by_cases hj : j ∈ vs
    · rw [if_pos hj] at e
      have q := ok j hj
      rw [e] at q
      cases q
    · rw [if_neg hj] at e; exact ⟨hj, e⟩
  refine ⟨S.zz, S.zh, S.fr, S.nw, fun j d q => ?_, fun j p c q => ?_, fun j k p q c d n e1 e2 => ?_, fun j x hj => ?_, by rw [restR_length, ← hl]; exact S1.len, S.lx.frame (fun j xss q => ?_) (fun j k m q => ?_) (.refl _) fun b u f zb gn w hu => ⟨hu, zb, gn, fun j p c q => by obtain ⟨hj, q⟩ := g j p c q; rw [← gs j hj]; exact w j p c q⟩⟩
  · rw [restR_get ρ1 ρ j hl] at q
    by_cases hj : j ∈ vs
    · rw [if_pos hj] at q
      obtain ⟨v, h1, h2⟩ := S1.pu j d q
      exact ⟨v, h1, h2.mono e⟩
    · rw [if_neg hj] at q
      rw [← gs j hj]
      exact S.pu j d q
  · obtain ⟨hj, q⟩ := g j p c q; rw [← gs j hj]; exact S.ow j p c q
  · obtain ⟨hj, e1⟩ := g j _ _ e1
    obtain ⟨hk, e2⟩ := g k _ _ e2
    rw [← gs j hj, ← gs k hk]
    exact S.ne j k p q c d n e1 e2
  · obtain ⟨q, c, hc⟩ := S1.pin j x hj
    have nv : j ∉ vs := fun m => by have q := ok j m; rw [hc] at q; cases q
    refine ⟨q, ?_⟩
    obtain ⟨_, c', hc'⟩ := S.pin j x hj
    exact ⟨c', by rw [restR_get ρ1 ρ j hl, if_neg nv]; exact hc'⟩
  · rw [restR_get ρ1 ρ j hl] at q
    by_cases hj : j ∈ vs
    · rw [if_pos hj] at q
      have t := ok j hj
      rw [q] at t
      cases t
    · rw [if_neg hj] at q; exact ⟨q, (gs j hj).symm⟩
  · rw [restR_get ρ1 ρ j hl] at q
    by_cases hj : j ∈ vs
    · rw [if_pos hj] at q
      have t := ok j hj
      rw [q] at t
      cases t
    · rw [if_neg hj] at q; exact ⟨q, (gs j hj).symm⟩
end
def TSD (X : Cx) (G : Gm) (B : Wish) (ifs : List Expr) (o : O Bool) : Prop := PTs X ifs (Run X.K G B BoR o)
theorem pts_imp {X : Cx} {e : List Expr} {t t' : TT} (h : PTs X e t) (k : ∀ σ H Q, t' σ H Q → t σ H Q) : PTs X e t' := ⟨fun pins s σ H Q I w => h.run pins s σ H Q I (k _ _ _ w)⟩
section
variable {X : Cx} {G : Gm} {B : Wish} {elt tg iter c : Expr} {ifs : List Expr} {scope : Scope} {own : List (Str × Nat)} {pos spos py : Pos} {T : List Nat} {oi : O (List D)} {g : D → Rho → Option Rho} {ot : O Bool} {oe : O D}
theorem tsd_nil : TSD X G B [] oYes := pts_imp pts_nil fun σ H Q ⟨Z, ρ, S, p⟩ => p true Z H (.refl _) S rfl
theorem tsd_one {o : O Bool} (h : TD X G B c o) : TSD X G B [c] o := pts_one h
/-- the reading of a comprehension; its parts are read at any ground (the list that grows is a ghost there) -/
theorem run_lc {K : PySem.W.Frag} {gg : TG} {tt : TT} {te : TE} {vs : List Nat} {σ : St} {H : Hp} {Q : VK} (hT : ∀ t ∈ T, t ∈ vs)
    (hg : ∀ G v σ H Q, gRun K G T g v σ H Q → gg v σ H Q) (ht : ∀ G σ H Q, Run K G noB BoR ot σ H Q → tt σ H Q) (he : ∀ G σ H Q, Run K G noB (PuR K) oe σ H Q → te σ H Q)
    (w : Run K G B (RsR K G) (oLc vs oi g ot oe) σ H Q) : tLc (fun σ H R => Run K G B (ItR K) oi σ H R) gg tt te vs σ H Q :=
  run_imp (C := fun (J : It) H1 => ∀ D, H1 D = none → ∃ W : Nat → Nat → Hp → Prop, (∃ m, W 0 m (upd H1 D (.lst []))) ∧ ∀ i m H, W i m H →
      (J.stop i H ∧ Q (.ref D) H) ∨ (J.go i H ∧ ∃ Nx : Hp → Prop, (∀ H', Nx H' → ∃ m', m' < m ∧ W (i + 1) m' H') ∧ ∀ x H', J.yld i H x H' → gg x (wipe σ vs) H' fun σ2 H2 => wipe σ2 vs = wipe σ vs ∧ tt σ2 H2 fun b H3 =>
        if b = true then te σ2 H3 fun y H4 => ∃ acc, H4 D = some (.lst acc) ∧ acc.length < sizeLine ∧ Nx (upd H4 D (.lst (acc ++ [y]))) else Nx H3)) w fun J ds ρ1 Z1 H1 S1 wd p1 => by
    intro L hL
    unfold lc1 at p1
    split at p1
    · rename_i hok
      obtain ⟨hw, hlen⟩ := hok
      cases hm : lcL vs g ot oe ds (wipeR ρ1 vs) with
      | st => rw [hm] at p1; exact p1.elim
      | ex x ρ2 => rw [hm] at p1; exact p1.elim
      | ok ysF ρF =>
        rw [hm] at p1
        have p2 : Post K G B (RsR K G) σ Z1 (.ok (.nw (.li ysF)) (restR ρ1 ρF vs)) Q := p1
        obtain ⟨Gd, Y, wk, h1, h2⟩ := wd
        have zL : Z1 L = none := S1.fresh hL
        have gL : G.H0 L = none := S1.freshIn hL
        have z0L : G.Z0 L = none := none_of_same S1.zz zL
        have nS1 : NewA ρ1 σ H1 L := S1.newA hL
        have nl : ¬ G.lent L := S1.notLent nS1.1
        have hv : ∀ v ∈ vs, ∀ x, (v, x) ∉ G.pins := fun v hv x hx => by
          obtain ⟨_, c, hc⟩ := S1.pin v x hx
          have q := List.all_eq_true.mp hw v hv
          rw [hc] at q
          cases q
        have Sw : Sim K G Z1 (wipeR ρ1 vs) (wipe σ vs) (upd H1 L (.lst [])) := (S1.grow (.loose S1.zh hL (.lst []))).wipes hv
        have nSw : NewA (wipeR ρ1 vs) (wipe σ vs) (upd H1 L (.lst [])) L := (nS1.heap S1.lx (H' := upd H1 L (.lst [])) fun b o f ho => by rw [upd_ne]; exact ho; intro e; subst e; rw [hL] at ho; cases ho).wipe
        refine lc_it wk (fun i H => ∃ Z ρ acc accV ys, Sim K G Z ρ (wipe σ vs) H ∧ Same Z1 Z ∧ H L = some (.lst accV) ∧ RpAll K Z accV acc ∧ Z L = none ∧ NewA ρ (wipe σ vs) H L ∧
          acc.length ≤ i ∧ lcL vs g ot oe (ds.drop i) ρ = .ok ys ρF ∧ ysF = acc ++ ys)
          ⟨Z1, wipeR ρ1 vs, [], [], ysF, Sw, .refl _, upd_same, .nil, zL, nSw, Nat.le_refl _, by rw [List.drop_zero]; exact hm, rfl⟩ (fun i H' _ ⟨Z, ρ, acc, accV, ys, S, e, _⟩ => h1 H' (e.trans S.zh)) ?_ ?_
        · rintro i x H' H2 hi ⟨Z, ρ, acc, accV, ys, S, e, hacc, racc, zz, nn, hal, hlc, hys⟩ y
          obtain ⟨d, Z', hd, gr, rx⟩ := h2 i H' x H2 Z hi e S.zh y
          have hdr : ds.drop i = d :: ds.drop (i + 1) := by
            rw [List.drop_eq_getElem_cons hi]
            have q := (List.getElem?_eq_some_iff.mp hd).2
            rw [q]
          rw [hdr, lcL_cons] at hlc
          have S' := S.grow gr
          have hacc' : H2 L = some (.lst accV) := gr.h _ _ hacc
          have zz' : Z' L = none := by
            cases q : Z' L with
            | none => rfl
            | some u =>
              rcases gr.n L u q with q' | q'
              · rw [zz] at q'; cases q'
              · rw [hacc] at q'; cases q'
          have nn' : NewA ρ (wipe σ vs) H2 L := nn.heap S.lx fun b o _ ho => gr.h _ _ ho
          have SG := S'.toGhost hacc' zz' nn'
          cases hg1 : g d ρ with
          | none => rw [hg1] at hlc; cases hlc
          | some ρ2 =>
            rw [hg1] at hlc
            dsimp only at hlc
            refine hg (G.ghost L (.lst accV)) _ _ _ _ ⟨Z', ρ, d, ρ2, SG, rx, hg1, fun σ2 Z2 H3 hl2 hj2 e2 S2 => ?_⟩
            have hw2 : wipe σ2 vs = wipe σ vs := by
              rw [wipe_same hl2 fun j hj => hj2 j fun m => hj (hT j m), wipe_wipe]
            refine ⟨hw2, ht (G.ghost L (.lst accV)) _ _ _ ⟨Z2, ρ2, S2, ?_⟩⟩
            cases ht1 : ot ρ2 with
            | st => rw [ht1] at hlc; cases hlc
            | ex x ρ3 => rw [ht1] at hlc; cases hlc
            | ok b ρ3 =>
              rw [ht1] at hlc
              intro b' Z3 H4 e3 S3 rb
              have rb : b' = b := rb
              subst rb
              cases b' with
              | false =>
                dsimp only at hlc
                rw [if_neg Bool.false_ne_true]
                obtain ⟨S4, h4, z4, n4⟩ := S3.ofGhost gL z0L nl
                have S5 := S4.wipes hv
                rw [hw2] at S5
                refine ⟨Z3, wipeR ρ3 vs, acc, accV, ys, S5, e.trans (gr.z.trans (e2.trans e3)), h4, racc.mono (gr.z.trans (e2.trans e3)), z4, (by have q := n4.wipe (vs := vs); rw [hw2] at q; exact q), Nat.le_succ_of_le hal, hlc, hys⟩
              | true =>
                dsimp only at hlc
                rw [if_pos rfl]
                refine he (G.ghost L (.lst accV)) _ _ _ ⟨Z3, ρ3, S3, ?_⟩
                cases he1 : oe ρ3 with
                | st => rw [he1] at hlc; cases hlc
                | ex x ρ4 => rw [he1] at hlc; cases hlc
                | ok y ρ4 =>
                  rw [he1] at hlc
                  dsimp only at hlc
                  intro yv Z4 H5 e4 S4 ry
                  have ry : Rp K Z4 yv y := ry
                  obtain ⟨S5, h5, z5, n5⟩ := S4.ofGhost gL z0L nl
                  cases hr : lcL vs g ot oe (ds.drop (i + 1)) (wipeR ρ4 vs) with
                  | st => rw [hr] at hlc; cases hlc
                  | ex x ρ5 => rw [hr] at hlc; cases hlc
                  | ok ys' ρ5 =>
                    rw [hr] at hlc
                    cases hlc
                    have ea := gr.z.trans (e2.trans (e3.trans e4))
                    have hal' : accV.length = acc.length := racc.length
                    refine ⟨accV, h5, lim_lt (by omega), ?_⟩
                    -- the list has grown
                    have S6 : Sim K G Z4 (wipeR ρ4 vs) (wipe σ vs) (upd H5 L (.lst (accV ++ [yv]))) := by
                      have S7 := S5.wipes hv
                      rw [hw2] at S7
                      have nn7 : NewA (wipeR ρ4 vs) (wipe σ vs) H5 L := (by have q := n5.wipe (vs := vs); rw [hw2] at q; exact q)
                      refine ⟨S7.zz, fun b u q => ?_, fun b u q l => ?_, S7.nw, S7.pu, fun j p c q => ?_, S7.ne, S7.pin, S7.len, S7.lx.frame (fun _ _ e => ⟨e, rfl⟩) (fun _ _ _ e => ⟨e, rfl⟩) (.refl _) fun b u f zb gn w hu => ⟨(by rw [upd_ne]; exact hu; intro e; subst e; exact nn7.2 f), zb, gn, w⟩⟩
                      · rw [upd_ne (ne_of_none q z5)]; exact S7.zh _ _ q
                      · have hb : b ≠ L := fun e' => by subst e'; rw [gL] at q; cases q
                        rw [upd_ne hb]; exact S7.fr b u q l
                      · obtain ⟨a', o', q', ho', r'⟩ := S7.ow j p c q
                        have hb : a' ≠ L := fun e' => by subst e'; exact nn7.1 j p c q q'
                        exact ⟨a', o', q', by rw [upd_ne hb]; exact ho', r'⟩
                    refine ⟨Z4, wipeR ρ4 vs, acc ++ [y], accV ++ [yv], ys', S6, e.trans ea, upd_same, (racc.mono ea).append (.one ry), z5, ?_, by simp; omega, hr, by rw [hys]; simp⟩
                    have S7 := S5.wipes hv
                    have n7 := n5.wipe (vs := vs)
                    rw [hw2] at S7 n7
                    exact n7.heap S7.lx fun b o f ho => by rw [upd_ne]; exact ho; intro e; subst e; exact n7.2 f
        · rintro H' ⟨Z, ρ, acc, accV, ys, S, e, hacc, racc, zz, nn, hal, hlc, hys⟩
          rw [List.drop_length] at hlc
          cases hlc
          rw [List.append_nil] at hys
          subst hys
          have SR := S1.rests S e hw
          refine p2 (.ref L) Z H' e SR ⟨L, .lst accV, rfl, hacc, racc, zz, gL, fun i p c hi q => ?_, fun f => ?_⟩
          · rw [restR_get ρ1 ρF i (by rw [S1.len, S.len, wipe_length])] at hi
            by_cases hj : i ∈ vs
            · rw [if_pos hj] at hi
              exact nS1.1 i p c hi q
            · rw [if_neg hj] at hi
              refine nn.1 i p c hi ?_
              rw [wipe_get, if_neg hj]
              exact q
          · obtain ⟨i, xss, a0, bs, hi, q, h3, h4⟩ := f
            rw [restR_get ρ1 ρF i (by rw [S1.len, S.len, wipe_length])] at hi
            by_cases hj : i ∈ vs
            · rw [if_pos hj] at hi
              have t := List.all_eq_true.mp hw i hj
              rw [hi] at t
              cases t
            · rw [if_neg hj] at hi
              exact nn.2 ⟨i, xss, a0, bs, hi, by rw [wipe_get, if_neg hj]; exact q, h3, h4⟩
    · exact p1.elim
theorem rd_lc (hc : X.calm = true) (hN : X.N.Nodup) (hT : ∀ t ∈ T, t ∈ own.map (·.2)) (hi : ID X G B tg iter oi) (ok : BlkOk X.N X.env.scope scope own)
    (hg : ∀ (s : Shared) (H : Hp) (C : Addr) (cl : List (Str × Addr)) (fp : List Addr) (G : Gm), GD (X.blk s H scope (compEnvC scope cl C X.env) fp) G tg T g)
    (ht : ∀ (s : Shared) (H : Hp) (C : Addr) (cl : List (Str × Addr)) (fp : List Addr) (G : Gm), TSD (X.blk s H scope (compEnvC scope cl C X.env) fp) G noB ifs ot)
    (he : ∀ (s : Shared) (H : Hp) (C : Addr) (cl : List (Str × Addr)) (fp : List Addr) (G : Gm), PD (X.blk s H scope (compEnvC scope cl C X.env) fp) G noB elt oe)
    (hs : ∀ x, foldedSetIterable iter X.env x = pure x := by intro _; rfl) : RD X G B (.ListComp elt [⟨tg, iter, ifs, 0⟩] scope pos) (oLc (own.map (·.2)) oi g ot oe) :=
  pe_imp (pe_lc hc hN hi ok (g := fun v σ H Q => ∃ G, gRun X.K G T g v σ H Q) (tt := fun σ H Q => ∃ G, Run X.K G noB BoR ot σ H Q) (te := fun σ H Q => ∃ G, Run X.K G noB (PuR X.K) oe σ H Q)
    (fun s H C cl fp => ⟨fun pins s' σ H' v u Q I r ⟨G', w⟩ => (hg s H C cl fp G').run pins s' σ H' v u Q I r w⟩) (fun s H C cl fp => ⟨fun pins s' σ H' Q I ⟨G', w⟩ => (ht s H C cl fp G').run pins s' σ H' Q I w⟩)
    (fun s H C cl fp => ⟨fun pins s' σ H' Q I ⟨G', w⟩ => (he s H C cl fp G').run pins s' σ H' Q I w⟩) hs) fun σ H Q w => run_lc hT (fun G _ _ _ _ w => ⟨G, w⟩) (fun G _ _ _ w => ⟨G, w⟩) (fun G _ _ _ w => ⟨G, w⟩) w
theorem sd_setLc (i : Nat) {y : Str} (hc : X.calm = true) (hN : X.N.Nodup) (hT : ∀ t ∈ T, t ∈ own.map (·.2)) (hy : X.N[i]? = some y) (hyl : X.env.scope.names.lookup y = some .local)
    (hsw : swapsWith (.ListComp elt [⟨tg, iter, ifs, 0⟩] scope pos) (some (.Name y py)) spos.line X.env = pure true) (hi : ID X G B tg iter oi) (ok : BlkOk X.N X.env.scope scope own)
    (hg : ∀ (s : Shared) (H : Hp) (C : Addr) (cl : List (Str × Addr)) (fp : List Addr) (G : Gm), GD (X.blk s H scope (compEnvC scope cl C X.env) fp) G tg T g)
    (ht : ∀ (s : Shared) (H : Hp) (C : Addr) (cl : List (Str × Addr)) (fp : List Addr) (G : Gm), TSD (X.blk s H scope (compEnvC scope cl C X.env) fp) G noB ifs ot)
    (he : ∀ (s : Shared) (H : Hp) (C : Addr) (cl : List (Str × Addr)) (fp : List Addr) (G : Gm), PD (X.blk s H scope (compEnvC scope cl C X.env) fp) G noB elt oe)
    (hs : ∀ x, foldedSetIterable iter X.env x = pure x := by intro _; rfl) : SD X G B (.Assign [.Name y py] (.ListComp elt [⟨tg, iter, ifs, 0⟩] scope pos) spos) (oSet i (oLc (own.map (·.2)) oi g ot oe)) :=
  ps_imp (ps_setLc hc hN hy hyl hsw hi ok (g := fun v σ H Q => ∃ G, gRun X.K G T g v σ H Q) (tt := fun σ H Q => ∃ G, Run X.K G noB BoR ot σ H Q) (te := fun σ H Q => ∃ G, Run X.K G noB (PuR X.K) oe σ H Q)
    (fun s H C cl fp => ⟨fun pins s' σ H' v u Q I r ⟨G', w⟩ => (hg s H C cl fp G').run pins s' σ H' v u Q I r w⟩) (fun s H C cl fp => ⟨fun pins s' σ H' Q I ⟨G', w⟩ => (ht s H C cl fp G').run pins s' σ H' Q I w⟩)
    (fun s H C cl fp => ⟨fun pins s' σ H' Q I ⟨G', w⟩ => (he s H C cl fp G').run pins s' σ H' Q I w⟩) hs) fun D σ H w =>
    run_lc (Q := fun x H1 => gName i x σ H1 D.nx) hT (fun G _ _ _ _ w => ⟨G, w⟩) (fun G _ _ _ w => ⟨G, w⟩) (fun G _ _ _ w => ⟨G, w⟩) (asg_name w)
end
end Ow
namespace Ow
open PySem PySem.Spec PyProof.Rows L2
/-! ### defs: data and lent things in, data or a new thing and what was lent out -/
inductive Fr where
  | st
  | ret (r : Rs) (outs : List Sl)
  | exc (x : Xn) (outs : List Sl)
abbrev Fn := List Sl → Fr
structure ArgsR (K : PySem.W.Frag) (Z H : Hp) (vs : List V) (as : List Sl) : Prop where
  len : vs.length = as.length
  no : ∀ i : Nat, as[i]? ≠ some Sl.no
  ll : ∀ (i : Nat) xss, as[i]? ≠ some (Sl.ll xss)
  al : ∀ (i k j : Nat), as[i]? ≠ some (Sl.al k j)
  pu : ∀ (i : Nat) d, as[i]? = some (Sl.pu d) → ∃ v, vs[i]? = some v ∧ Rp K Z v d
  ow : ∀ (i : Nat) p c, as[i]? = some (Sl.ow p c) → p = true ∧ ∃ a o, vs[i]? = some (V.ref a) ∧ H a = some o ∧ CtR K Z o c ∧ Z a = none
  ne : ∀ (i j : Nat) p q c d, i ≠ j → as[i]? = some (Sl.ow p c) → as[j]? = some (Sl.ow q d) → vs[i]? ≠ vs[j]?
def lentBy (vs : List V) (as : List Sl) (a : Addr) : Prop := ∃ (i : Nat) (p : Bool) (c : Ct), as[i]? = some (Sl.ow p c) ∧ vs[i]? = some (V.ref a)
structure After (K : PySem.W.Frag) (Z H : Hp) (vs : List V) (as outs : List Sl) (Z' H' : Hp) : Prop where
  z : Same Z Z'
  zh : Same Z' H'
  fr : ∀ a o, H a = some o → ¬ lentBy vs as a → H' a = some o
  n : ∀ a o, Z' a = some o → Z a = some o ∨ H a = none
  outs : ∀ (i : Nat) p c a, as[i]? = some (Sl.ow p c) → vs[i]? = some (V.ref a) → ∃ o c', outs[i]? = some (Sl.ow true c') ∧ H' a = some o ∧ CtR K Z' o c' ∧ Z' a = none
/-- the exception x: its class stands in the module, its own dict holds what it is told -/
def XnR (K : PySem.W.Frag) (Z : Hp) (x : Xn) (cls : Value) (d : Option Addr) (H : Hp) : Prop :=
  ∃ C, cls = .ref C ∧ PySem.W.nsIn K mainGlobals x.cls = some (some (.ref C)) ∧ (x.told = [] ∨ ∃ dd fs, d = some dd ∧ H dd = some (.xd fs) ∧ fs.map (·.1) = x.told.map (·.1) ∧ RpAll K Z (fs.map (·.2)) (x.told.map (·.2)))
def spD (K : PySem.W.Frag) (n : Nat) (g : Fn) : Sp := fun vs H Q E => vs.length = n ∧ ∃ Z as, Same Z H ∧ ArgsR K Z H vs as ∧ match g as with
  | .st => False
  | .ret r outs => ∀ v Z' H', After K Z H vs as outs Z' H' → ResG K Z' H H' v r → Q v H'
  | .exc x outs => ∀ cls d Z' H', After K Z H vs as outs Z' H' → XnR K Z' x cls d H' → (∀ dd, d = some dd → H dd = none) → E cls d H'
/-! the body of a def, as such a function -/
def fnOf (n : Nat) (b : Os) : Fn := fun as => match b (as ++ List.replicate (n - as.length) Sl.no) with
  | .nx ρ => .ret (.pu .none) (ρ.take as.length)
  | .rt r ρ => .ret r (ρ.take as.length)
  | _ => .st
def fnOfX (n : Nat) (b : Os) : Fn := fun as => match b (as ++ List.replicate (n - as.length) Sl.no) with
  | .nx ρ => .ret (.pu .none) (ρ.take as.length)
  | .rt r ρ => .ret r (ρ.take as.length)
  | .ex x ρ => .exc x (ρ.take as.length)
  | _ => .st
def pinsOf (vs : List V) (as : List Sl) : List (Nat × Addr) := (List.range as.length).filterMap fun i => match as[i]?, vs[i]? with
  | some (Sl.ow _ _), some (V.ref a) => some (i, a)
  | _, _ => none
theorem mem_pinsOf {vs : List V} {as : List Sl} {i : Nat} {a : Addr} : (i, a) ∈ pinsOf vs as ↔ ∃ p c, as[i]? = some (Sl.ow p c) ∧ vs[i]? = some (V.ref a) := by
  unfold pinsOf
  rw [List.mem_filterMap]
  constructor
  · rintro ⟨j, hj, e⟩
    split at e
    · rename_i p c b h1 h2
      cases e
      exact ⟨p, c, h1, h2⟩
    · cases e
  · rintro ⟨p, c, h1, h2⟩
    refine ⟨i, List.mem_range.mpr (List.getElem?_eq_some_iff.mp h1).1, ?_⟩
    rw [h1, h2]
def gOf (Z H : Hp) (vs : List V) (as : List Sl) : Gm := ⟨H, Z, pinsOf vs as⟩
theorem gOf_lent {Z H : Hp} {vs : List V} {as : List Sl} {a : Addr} : (gOf Z H vs as).lent a ↔ lentBy vs as a := by
  unfold Gm.lent lentBy
  constructor
  · rintro ⟨i, h⟩
    obtain ⟨p, c, h1, h2⟩ := mem_pinsOf.mp h
    exact ⟨i, p, c, h1, h2⟩
  · rintro ⟨i, p, c, h1, h2⟩
    exact ⟨i, mem_pinsOf.mpr ⟨p, c, h1, h2⟩⟩
theorem start_get {N : List Str} {vs : List V} {i : Nat} {v : V} (h : vs[i]? = some v) : (L2.start N vs)[i]? = some (some v) := by
  unfold L2.start
  have hi : i < vs.length := (List.getElem?_eq_some_iff.mp h).1
  rw [List.getElem?_append_left (by simpa using hi), List.getElem?_map, h]
  rfl
theorem sim_start {K : PySem.W.Frag} {Z H : Hp} {vs : List V} {as : List Sl} {N : List Str} (e : Same Z H) (R : ArgsR K Z H vs as) (hl : as.length ≤ N.length) :
    Sim K (gOf Z H vs as) Z (as ++ List.replicate (N.length - as.length) Sl.no) (L2.start N vs) H := by
  have g : ∀ (j : Nat) s, (as ++ List.replicate (N.length - as.length) Sl.no)[j]? = some s → s ≠ .no → as[j]? = some s := fun j s h n => by
    by_cases hj : j < as.length
    · rw [List.getElem?_append_left hj] at h; exact h
    · rw [List.getElem?_append_right (by omega), List.getElem?_replicate] at h
      split at h
      · cases h; exact absurd rfl n
      · cases h
  refine ⟨.refl _, e, fun a o h _ => h, fun a o h => .inl h, fun i d h => ?_, fun i p c h => ?_, fun i j p q c d n h1 h2 => ?_, fun i a h => ?_, ?_, ⟨fun i xss h => absurd (g i _ h (by simp)) (R.ll i xss), fun i j xss yss h => absurd (g i _ h (by simp)) (R.ll i xss), fun i k j xss h => absurd (g i _ h (by simp)) (R.al i k j)⟩⟩
  · obtain ⟨v, h1, h2⟩ := R.pu i d (g i _ h (by simp)); exact ⟨v, start_get h1, h2⟩
  · have h' := g i _ h (by simp)
    obtain ⟨rfl, a, o, h1, h2, h3, h4⟩ := R.ow i p c h'
    exact ⟨a, o, start_get h1, h2, h3, h4, fun _ => gOf_lent.mpr ⟨i, _, c, h', h1⟩, fun q => by cases q⟩
  · have h1' := g i _ h1 (by simp)
    have h2' := g j _ h2 (by simp)
    obtain ⟨_, a, _, q1, _⟩ := R.ow i p c h1'
    obtain ⟨_, b, _, q2, _⟩ := R.ow j q d h2'
    rw [start_get q1, start_get q2]
    intro e'
    cases e'
    exact R.ne i j p q c d n h1' h2' (q1.trans q2.symm)
  · obtain ⟨p, c, h1, h2⟩ := mem_pinsOf.mp h
    obtain ⟨rfl, _⟩ := R.ow i p c h1
    refine ⟨start_get h2, c, ?_⟩
    rw [List.getElem?_append_left (List.getElem?_eq_some_iff.mp h1).1]
    exact h1
  · unfold L2.start
    rw [List.length_append, List.length_append, List.length_map, List.length_replicate, List.length_replicate, R.len]
theorem after_of {K : PySem.W.Frag} {Z H Z' H' : Hp} {vs : List V} {as : List Sl} {ρ : Rho} {σ : L2.St} (S : Sim K (gOf Z H vs as) Z' ρ σ H') : After K Z H vs as (ρ.take as.length) Z' H' := by
  refine ⟨S.zz, S.zh, fun a o h l => S.fr a o h fun q => l (gOf_lent.mp q), S.nw, fun i p c a h1 h2 => ?_⟩
  obtain ⟨q, c', hc'⟩ := S.pin i a (mem_pinsOf.mpr ⟨p, c, h1, h2⟩)
  obtain ⟨b, o, q', ho, r, z, _⟩ := S.ow i _ _ hc'
  rw [q] at q'
  cases q'
  refine ⟨o, c', ?_, ho, r, z⟩
  rw [List.getElem?_take_of_lt (List.getElem?_eq_some_iff.mp h1).1]
  exact hc'
theorem res_of {K : PySem.W.Frag} {Z H Z' H' : Hp} {vs : List V} {as : List Sl} {ρ : Rho} {σ : L2.St} {v : V} {r : Rs} (h : RsR K (gOf Z H vs as) Z' ρ σ H' v r) : ResG K Z' H H' v r := by
  cases r with
  | pu d => exact h
  | nw c =>
    obtain ⟨a, o, e, ho, cr, z, n, _⟩ := h
    exact ⟨a, o, e, n, z, ho, cr⟩
section
variable {P : Program} {w : World} {K : PySem.W.Frag} {mg : Str → Option Value} {base : Heap} {x qual : Str} {params : Arguments} {body : List Stmt} {scope : Scope} {dvs : List V} {kws : List (Str × V)} {f : Addr} {fd : FuncData}
/-- THE RULE for a def that lets nothing out -/
theorem fn_ok {N ps : List Str} {k : Nat} {b : Os} (F : FunD K x qual params body scope dvs kws f fd) (S : FnScope N ps scope) (hpl : ps.length ≤ N.length)
    (hb : ∀ (cdv : Value) (A : Around) (outer : List Env) (s : Shared) (H : Hp) (E : XK), Room k (A.deeper (envOfC qual scope s.heap.objs.size f cdv)) → ∀ G, BD (cxOf CX0 P w K mg base N qual scope f cdv A outer s H E).nox G noB body b) :
    FnOk P w K mg base CX0 (k + 1) f fd ps (spD K ps.length (fnOf N.length b)) := by
  refine F.ok S (fun vs H Q E h => h.1) (fun cdv A outer s H vs Q E hr h => ⟨fun D σ H => ∃ G, RunS K G noB b D σ H, PSs.nox ?_, ?_⟩)
  · exact ⟨fun pins s' σ H' D I ⟨G, w⟩ => (hb cdv A outer s H E hr G).run pins s' σ H' D I w⟩
  · obtain ⟨hl, Z, as, e, R, h⟩ := h
    have hla : as.length = ps.length := by rw [← R.len]; exact hl
    refine ⟨gOf Z H vs as, Z, _, sim_start e R (by omega), ?_⟩
    unfold fnOf at h
    cases hm : b (as ++ List.replicate (N.length - as.length) Sl.no) with
    | st => rw [hm] at h; exact h.elim
    | bk ρ => rw [hm] at h; exact h.elim
    | ct ρ => rw [hm] at h; exact h.elim
    | nx ρ => rw [hm] at h; exact fun σ Z' H' e' S' => h .non Z' H' (after_of S') .non
    | rt r ρ => rw [hm] at h; exact fun v σ Z' H' e' S' hr' => h v Z' H' (after_of S') (res_of hr')
    | ex y ρ => rw [hm] at h; exact h.elim
end
/-! ### a call -/
def argOf (ρ : Rho) : Va → Option Sl
  | .pu d => some (.pu d)
  | .rf i => match ρ[i]? with
    | some (.ow _ c) => some (.ow true c)
    | _ => none
def argsOf (ρ : Rho) : List Va → Option (List Sl)
  | [] => some []
  | a :: as => match argOf ρ a, argsOf ρ as with
    | some s, some r => some (s :: r)
    | _, _ => none
@[simp] theorem argsOf_nil (ρ : Rho) : argsOf ρ [] = some [] := rfl
@[simp] theorem argsOf_cons (ρ : Rho) (a : Va) (as : List Va) : argsOf ρ (a :: as) = match argOf ρ a, argsOf ρ as with | some s, some r => some (s :: r) | _, _ => none := rfl
@[simp] theorem argOf_pu (ρ : Rho) (d : D) : argOf ρ (.pu d) = some (.pu d) := rfl
def rfs : List Va → List Nat
  | [] => []
  | .rf i :: as => i :: rfs as
  | .pu _ :: as => rfs as
@[simp] theorem rfs_nil : rfs [] = [] := rfl
@[simp] theorem rfs_pu (d : D) (as : List Va) : rfs (.pu d :: as) = rfs as := rfl
@[simp] theorem rfs_rf (i : Nat) (as : List Va) : rfs (.rf i :: as) = i :: rfs as := rfl
def setCt (ρ : Rho) (i : Nat) (c : Ct) : Rho := match ρ[i]? with
  | some (.ow p _) => ρ.set i (.ow p c)
  | _ => ρ
def wb : List Va → List Sl → Rho → Rho
  | .rf i :: vs, .ow _ c :: os, ρ => wb vs os (setCt ρ i c)
  | _ :: vs, _ :: os, ρ => wb vs os ρ
  | _, _, ρ => ρ
@[simp] theorem wb_nil (os : List Sl) (ρ : Rho) : wb [] os ρ = ρ := by cases os <;> rfl
@[simp] theorem wb_rf (i : Nat) (vs : List Va) (p : Bool) (c : Ct) (os : List Sl) (ρ : Rho) : wb (.rf i :: vs) (.ow p c :: os) ρ = wb vs os (setCt ρ i c) := rfl
@[simp] theorem wb_pu (d : D) (vs : List Va) (o : Sl) (os : List Sl) (ρ : Rho) : wb (.pu d :: vs) (o :: os) ρ = wb vs os ρ := by cases o <;> rfl
def call1 (g : Fn) (vas : List Va) (ρ : Rho) : M Rs := match argsOf ρ vas with
  | some as => if (rfs vas).Nodup then match g as with
    | .st => .st
    | .ret r outs => .ok r (wb vas outs ρ)
    | .exc x outs => .ex x (wb vas outs ρ)
    else .st
  | none => .st
def oCall (g : Fn) (oas : O (List Va)) : O Rs := fun ρ => (oas ρ).bind (call1 g)
theorem setCt_length (ρ : Rho) (i : Nat) (c : Ct) : (setCt ρ i c).length = ρ.length := by
  unfold setCt
  split
  · rw [List.length_set]
  · rfl
theorem setCt_ne (ρ : Rho) {i j : Nat} (c : Ct) (h : i ≠ j) : (setCt ρ i c)[j]? = ρ[j]? := by
  unfold setCt
  split
  · rw [List.getElem?_set_ne h]
  · rfl
theorem setCt_eq {ρ : Rho} {i : Nat} {p : Bool} {c : Ct} (c' : Ct) (h : ρ[i]? = some (Sl.ow p c)) : (setCt ρ i c')[i]? = some (Sl.ow p c') := by
  unfold setCt
  rw [h]
  exact List.getElem?_set_self (List.getElem?_eq_some_iff.mp h).1
theorem wb_length : ∀ (vs : List Va) (os : List Sl) (ρ : Rho), (wb vs os ρ).length = ρ.length
  | [], os, ρ => by rw [wb_nil]
  | .pu d :: vs, [], ρ => rfl
  | .rf i :: vs, [], ρ => rfl
  | .pu d :: vs, o :: os, ρ => by rw [wb_pu]; exact wb_length vs os ρ
  | .rf i :: vs, .ow p c :: os, ρ => by rw [wb_rf, wb_length vs os, setCt_length]
  | .rf i :: vs, .no :: os, ρ => wb_length vs os ρ
  | .rf i :: vs, .pu _ :: os, ρ => wb_length vs os ρ
  | .rf i :: vs, .ll _ :: os, ρ => wb_length vs os ρ
  | .rf i :: vs, .al _ _ :: os, ρ => wb_length vs os ρ
theorem wb_out {j : Nat} : ∀ (vs : List Va) (os : List Sl) (ρ : Rho), j ∉ rfs vs → (wb vs os ρ)[j]? = ρ[j]?
  | [], os, ρ, _ => by rw [wb_nil]
  | .pu d :: vs, [], ρ, _ => rfl
  | .rf i :: vs, [], ρ, _ => rfl
  | .pu d :: vs, o :: os, ρ, h => by rw [wb_pu]; exact wb_out vs os ρ h
  | .rf i :: vs, .ow p c :: os, ρ, h => by
    rw [rfs_rf, List.mem_cons, not_or] at h
    rw [wb_rf, wb_out vs os _ h.2, setCt_ne ρ c (Ne.symm h.1)]
  | .rf i :: vs, .no :: os, ρ, h => wb_out vs os ρ fun q => h (by rw [rfs_rf]; exact List.mem_cons_of_mem _ q)
  | .rf i :: vs, .pu _ :: os, ρ, h => wb_out vs os ρ fun q => h (by rw [rfs_rf]; exact List.mem_cons_of_mem _ q)
  | .rf i :: vs, .ll _ :: os, ρ, h => wb_out vs os ρ fun q => h (by rw [rfs_rf]; exact List.mem_cons_of_mem _ q)
  | .rf i :: vs, .al _ _ :: os, ρ, h => wb_out vs os ρ fun q => h (by rw [rfs_rf]; exact List.mem_cons_of_mem _ q)
theorem mem_rfs : ∀ {vs : List Va} {j : Nat}, j ∈ rfs vs ↔ ∃ n : Nat, vs[n]? = some (Va.rf j)
  | [], j => by simp
  | .pu d :: vs, j => by
    rw [rfs_pu, mem_rfs]
    constructor
    · rintro ⟨n, h⟩; exact ⟨n + 1, by simpa using h⟩
    · rintro ⟨n, h⟩
      cases n with
      | zero => simp at h
      | succ n => exact ⟨n, by simpa using h⟩
  | .rf i :: vs, j => by
    rw [rfs_rf, List.mem_cons, mem_rfs]
    constructor
    · rintro (rfl | ⟨n, h⟩)
      · exact ⟨0, rfl⟩
      · exact ⟨n + 1, by simpa using h⟩
    · rintro ⟨n, h⟩
      cases n with
      | zero => simp at h; exact .inl h.symm
      | succ n => exact .inr ⟨n, by simpa using h⟩
theorem wb_in {j : Nat} {p q : Bool} {c c' : Ct} : ∀ {vs : List Va} {os : List Sl} {ρ : Rho} {n : Nat}, (rfs vs).Nodup → vs[n]? = some (Va.rf j) → os[n]? = some (Sl.ow q c') → ρ[j]? = some (Sl.ow p c) → (wb vs os ρ)[j]? = some (Sl.ow p c')
  | [], _, _, _, _, h, _, _ => by simp at h
  | _ :: _, [], _, _, _, _, h, _ => by simp at h
  | .pu d :: vs, o :: os, ρ, n, nd, h1, h2, h3 => by
    rw [wb_pu]
    cases n with
    | zero => simp at h1
    | succ n => exact wb_in (n := n) (by simpa using nd) (by simpa using h1) (by simpa using h2) h3
  | .rf i :: vs, o :: os, ρ, n, nd, h1, h2, h3 => by
    rw [rfs_rf, List.nodup_cons] at nd
    cases n with
    | zero =>
      simp at h1 h2
      subst h1 h2
      rw [wb_rf, wb_out vs os _ nd.1]
      exact setCt_eq c' h3
    | succ n =>
      have hj : j ∈ rfs vs := mem_rfs.mpr ⟨n, by simpa using h1⟩
      have hij : i ≠ j := fun e => nd.1 (by rw [e]; exact hj)
      cases o with
      | ow p' c1 =>
        rw [wb_rf]
        exact wb_in (n := n) nd.2 (by simpa using h1) (by simpa using h2) (by rw [setCt_ne ρ c1 hij]; exact h3)
      | no => exact wb_in (vs := vs) (os := os) (ρ := ρ) (n := n) nd.2 (by simpa using h1) (by simpa using h2) h3
      | pu d => exact wb_in (vs := vs) (os := os) (ρ := ρ) (n := n) nd.2 (by simpa using h1) (by simpa using h2) h3
      | ll x => exact wb_in (vs := vs) (os := os) (ρ := ρ) (n := n) nd.2 (by simpa using h1) (by simpa using h2) h3
      | al x y => exact wb_in (vs := vs) (os := os) (ρ := ρ) (n := n) nd.2 (by simpa using h1) (by simpa using h2) h3
section
variable {K : PySem.W.Frag} {G : Gm} {Z : Hp} {ρ : Rho} {σ : L2.St} {H : Hp} {vs : List V} {vas : List Va} {as outs : List Sl}
theorem argsOf_get : ∀ {vas : List Va} {as : List Sl} {i : Nat}, argsOf ρ vas = some as → (∀ va, vas[i]? = some va → ∃ s, argOf ρ va = some s ∧ as[i]? = some s) ∧ (∀ s, as[i]? = some s → ∃ va, vas[i]? = some va ∧ argOf ρ va = some s)
  | [], as, i, h => by cases h; simp
  | a :: vas, as, i, h => by
    unfold argsOf at h
    split at h
    · rename_i s r h1 h2
      cases h
      cases i with
      | zero => exact ⟨fun va q => ⟨s, by simp at q; subst q; exact ⟨h1, rfl⟩⟩, fun s' q => ⟨a, rfl, by simp at q; subst q; exact h1⟩⟩
      | succ i =>
        obtain ⟨q1, q2⟩ := argsOf_get (i := i) h2
        exact ⟨fun va q => by obtain ⟨s', e1, e2⟩ := q1 va (by simpa using q); exact ⟨s', e1, by simpa using e2⟩, fun s' q => by obtain ⟨va, e1, e2⟩ := q2 s' (by simpa using q); exact ⟨va, by simpa using e1, e2⟩⟩
    · cases h
theorem vasR_get (r : VasR K Z ρ σ H vs vas) {i : Nat} {va : Va} (h : vas[i]? = some va) : ∃ v, vs[i]? = some v ∧ VaR K Z ρ σ H v va := by
  have key : ∀ {l₁ : List V} {l₂ : List Va} {i : Nat}, Paired (VaR K Z ρ σ H) l₁ l₂ → l₂[i]? = some va → ∃ v, l₁[i]? = some v ∧ VaR K Z ρ σ H v va := by
    intro l₁ l₂ i r
    induction r generalizing i with
    | nil => intro h; simp at h
    | cons h1 h2 ih =>
      intro h
      cases i with
      | zero => simp at h; subst h; exact ⟨_, rfl, h1⟩
      | succ i => obtain ⟨v, q1, q2⟩ := ih (by simpa using h); exact ⟨v, by simpa using q1, q2⟩
  exact key r h
theorem argsOf_length : ∀ {vas : List Va} {as : List Sl}, argsOf ρ vas = some as → as.length = vas.length
  | [], _, h => by cases h; rfl
  | a :: vas, _, h => by
    unfold argsOf at h
    split at h
    · cases h; simp [argsOf_length ‹_›]
    · cases h
theorem argOf_pu' {va : Va} {d : D} (h : argOf ρ va = some (.pu d)) : va = .pu d := by
  cases va with
  | pu d' => cases h; rfl
  | rf i =>
    unfold argOf at h
    split at h
    · cases ‹Va.rf i = _›
    · split at h
      · cases h
      · cases h
theorem argOf_ow {va : Va} {p : Bool} {c : Ct} (h : argOf ρ va = some (.ow p c)) : p = true ∧ ∃ i q, va = .rf i ∧ ρ[i]? = some (.ow q c) := by
  cases va with
  | pu d' => cases h
  | rf i =>
    unfold argOf at h
    split at h
    · cases h
    · rename_i j e
      cases e
      split at h
      · rename_i q c' hr
        cases h
        exact ⟨rfl, i, q, rfl, hr⟩
      · cases h
theorem argOf_no {va : Va} : argOf ρ va ≠ some .no := by
  intro h
  cases va with
  | pu d' => cases h
  | rf i =>
    unfold argOf at h
    split at h
    · cases h
    · split at h
      · cases h
      · cases h
theorem nodup_rfs : ∀ {vas : List Va} {m n j : Nat}, (rfs vas).Nodup → vas[m]? = some (Va.rf j) → vas[n]? = some (Va.rf j) → m = n
  | [], m, n, j, _, h, _ => by simp at h
  | .pu d :: vas, m, n, j, nd, h1, h2 => by
    cases m with
    | zero => simp at h1
    | succ m =>
      cases n with
      | zero => simp at h2
      | succ n => exact congrArg (· + 1) (nodup_rfs (vas := vas) (j := j) (by simpa using nd) (by simpa using h1) (by simpa using h2))
  | .rf i :: vas, m, n, j, nd, h1, h2 => by
    rw [rfs_rf, List.nodup_cons] at nd
    cases m with
    | zero =>
      cases n with
      | zero => rfl
      | succ n =>
        simp at h1
        subst h1
        exact absurd (mem_rfs.mpr ⟨n, by simpa using h2⟩) nd.1
    | succ m =>
      cases n with
      | zero =>
        simp at h2
        subst h2
        exact absurd (mem_rfs.mpr ⟨m, by simpa using h1⟩) nd.1
      | succ n => exact congrArg (· + 1) (nodup_rfs (vas := vas) (j := j) nd.2 (by simpa using h1) (by simpa using h2))
theorem args_of (S : Sim K G Z ρ σ H) (r : VasR K Z ρ σ H vs vas) (h : argsOf ρ vas = some as) (nd : (rfs vas).Nodup) : ArgsR K Z H vs as := by
  have kind : ∀ {va : Va} {t : Sl}, argOf ρ va = some t → (∃ d, t = .pu d) ∨ ∃ c, t = .ow true c := fun {va t} q => by
    cases va with
    | pu d => cases q; exact .inl ⟨d, rfl⟩
    | rf i =>
      unfold argOf at q
      dsimp only at q
      split at q
      · cases q; exact .inr ⟨_, rfl⟩
      · cases q
  refine ⟨?_, fun i e => ?_, fun i xss e => ?_, fun i k j e => ?_, fun i d e => ?_, fun i p c e => ?_, fun i j p q c d n e1 e2 => ?_⟩
  · rw [Paired.length r, argsOf_length h]
  · obtain ⟨va, _, q⟩ := (argsOf_get (i := i) h).2 _ e
    exact argOf_no q
  · obtain ⟨va, _, q⟩ := (argsOf_get (i := i) h).2 _ e
    rcases kind q with ⟨_, t⟩ | ⟨_, t⟩ <;> cases t
  · obtain ⟨va, _, q⟩ := (argsOf_get (i := i) h).2 _ e
    rcases kind q with ⟨_, t⟩ | ⟨_, t⟩ <;> cases t
  · obtain ⟨va, q1, q2⟩ := (argsOf_get (i := i) h).2 _ e
    have e' := argOf_pu' q2
    subst e'
    exact vasR_get r q1
  · obtain ⟨va, q1, q2⟩ := (argsOf_get (i := i) h).2 _ e
    obtain ⟨rfl, j, q, rfl, hr⟩ := argOf_ow q2
    obtain ⟨v, h1, h2⟩ := vasR_get r q1
    obtain ⟨a, o, h3, h4, h5, h6, _⟩ := S.ow j q c hr
    have h2 : σ[j]? = some (some v) := h2
    rw [h3] at h2
    cases h2
    exact ⟨rfl, a, o, h1, h4, h5, h6⟩
  · obtain ⟨va, q1, q2⟩ := (argsOf_get (i := i) h).2 _ e1
    obtain ⟨_, i', p', rfl, hr⟩ := argOf_ow q2
    obtain ⟨vb, q3, q4⟩ := (argsOf_get (i := j) h).2 _ e2
    obtain ⟨_, j', p'', rfl, hr'⟩ := argOf_ow q4
    obtain ⟨v, h1, h2⟩ := vasR_get r q1
    obtain ⟨v', h3, h4⟩ := vasR_get r q3
    have hij : i' ≠ j' := fun e => by subst e; exact n (nodup_rfs nd q1 q3)
    rw [h1, h3]
    intro e
    cases e
    have h2 : σ[i']? = some (some v) := h2
    have h4 : σ[j']? = some (some v) := h4
    exact S.ne i' j' _ _ _ _ hij hr hr' (h2.trans h4.symm)
theorem Sim.after (S : Sim K G Z ρ σ H) (r : VasR K Z ρ σ H vs vas) (h : argsOf ρ vas = some as) (nd : (rfs vas).Nodup) {Z' H' : Hp} (A : After K Z H vs as outs Z' H') : Sim K G Z' (wb vas outs ρ) σ H' := by
  -- what stands at a lent slot
  have lent : ∀ {n j : Nat} {p : Bool} {c : Ct} {a : Addr}, vas[n]? = some (Va.rf j) → ρ[j]? = some (Sl.ow p c) → σ[j]? = some (some (V.ref a)) → as[n]? = some (Sl.ow true c) ∧ vs[n]? = some (V.ref a) := fun {n j p c a} h1 h2 h3 => by
    obtain ⟨s, q1, q2⟩ := (argsOf_get (i := n) h).1 _ h1
    obtain ⟨v, q3, q4⟩ := vasR_get r h1
    have q4 : σ[j]? = some (some v) := q4
    rw [h3] at q4
    cases q4
    have q5 : argOf ρ (.rf j) = some (.ow true c) := by unfold argOf; dsimp only; rw [h2]
    rw [q5] at q1
    cases q1
    exact ⟨q2, q3⟩
  have lb : ∀ {a : Addr}, lentBy vs as a → ∃ (j : Nat) (p : Bool) (c : Ct), ρ[j]? = some (Sl.ow p c) ∧ σ[j]? = some (some (V.ref a)) ∧ j ∈ rfs vas := fun {a} ⟨n, p, c, h1, h2⟩ => by
    obtain ⟨va, q1, q2⟩ := (argsOf_get (i := n) h).2 _ h1
    obtain ⟨_, j, p', rfl, hr⟩ := argOf_ow q2
    obtain ⟨v, q3, q4⟩ := vasR_get r q1
    rw [h2] at q3
    cases q3
    exact ⟨j, p', c, hr, q4, mem_rfs.mpr ⟨n, q1⟩⟩
  have get : ∀ {j : Nat} {s : Sl}, (wb vas outs ρ)[j]? = some s → (j ∉ rfs vas ∧ ρ[j]? = some s) ∨ (∃ n p c a o c', vas[n]? = some (Va.rf j) ∧ ρ[j]? = some (Sl.ow p c) ∧ σ[j]? = some (some (V.ref a)) ∧ s = .ow p c' ∧ H' a = some o ∧ CtR K Z' o c' ∧ Z' a = none) := fun {j s} e => by
    by_cases hj : j ∈ rfs vas
    · obtain ⟨n, hn⟩ := mem_rfs.mp hj
      obtain ⟨s', q1, q2⟩ := (argsOf_get (i := n) h).1 _ hn
      have hex : ∃ p c, ρ[j]? = some (Sl.ow p c) := by
        unfold argOf at q1
        dsimp only at q1
        split at q1
        · exact ⟨_, _, ‹_›⟩
        · cases q1
      obtain ⟨p, c, hr⟩ := hex
      obtain ⟨a, o0, h3, _⟩ := S.ow j p c hr
      obtain ⟨l1, l2⟩ := lent hn hr h3
      obtain ⟨o, c', h4, h5, h6, h7⟩ := A.outs n true c a l1 l2
      rw [wb_in nd hn h4 hr] at e
      cases e
      exact .inr ⟨n, p, c, a, o, c', hn, hr, h3, rfl, h5, h6, h7⟩
    · rw [wb_out vas outs ρ hj] at e
      exact .inl ⟨hj, e⟩
  refine ⟨S.zz.trans A.z, A.zh, fun a o e l => ?_, fun a o e => ?_, fun i d e => ?_, fun i p c e => ?_, fun i j p q c d n e1 e2 => ?_, fun i a e => ?_, by rw [wb_length]; exact S.len, S.lx.frame (fun j xss e => ?_) (fun j k m e => ?_) A.z fun b o f zb gn w ho => ⟨A.fr b o ho fun q => ?_, ?_, gn, fun j p c e => ?_⟩⟩
  · refine A.fr a o (S.fr a o e l) fun q => ?_
    obtain ⟨j, p, c, h1, h2, _⟩ := lb q
    obtain ⟨b, _, h3, _, _, _, h4, h5⟩ := S.ow j p c h1
    rw [h2] at h3
    cases h3
    cases p with
    | true => exact l (h4 rfl)
    | false => rw [h5 rfl] at e; cases e
  · exact (A.n a o e).elim (fun q => S.nw a o q) fun q => .inr (S.freshIn q)
  · rcases get e with ⟨_, e⟩ | ⟨_, _, _, _, _, _, _, _, _, e', _⟩
    · obtain ⟨v, q, r'⟩ := S.pu i d e
      exact ⟨v, q, r'.mono A.z⟩
    · cases e'
  · rcases get e with ⟨hi, e⟩ | ⟨n, p', c0, a, o, c', hn, hr, h3, e', h4, h5, h6⟩
    · obtain ⟨a, o, h1, h2, h3, h4, h5⟩ := S.ow i p c e
      refine ⟨a, o, h1, A.fr a o h2 fun q => ?_, h3.mono A.z, ?_, h5⟩
      · obtain ⟨j, p', c', q1, q2, q3⟩ := lb q
        have hij : i ≠ j := fun e' => by subst e'; exact hi q3
        exact S.ne i j _ _ _ _ hij e q1 (h1.trans q2.symm)
      · cases q : Z' a with
        | none => rfl
        | some u =>
          rcases A.n a u q with w | w
          · rw [h4] at w; cases w
          · rw [h2] at w; cases w
    · cases e'
      obtain ⟨a', _, h7, _, _, _, h8⟩ := S.ow i _ _ hr
      rw [h3] at h7
      cases h7
      exact ⟨a, o, h3, h4, h5, h6, h8⟩
  · have ex : ∀ {j : Nat} {p : Bool} {c : Ct}, (wb vas outs ρ)[j]? = some (Sl.ow p c) → ∃ p' c', ρ[j]? = some (Sl.ow p' c') := fun {j p c} e => by
      rcases get e with ⟨_, e⟩ | ⟨_, p', c', _, _, _, _, hr, _⟩
      · exact ⟨p, c, e⟩
      · exact ⟨p', c', hr⟩
    obtain ⟨_, _, x1⟩ := ex e1
    obtain ⟨_, _, x2⟩ := ex e2
    exact S.ne i j _ _ _ _ n x1 x2
  · obtain ⟨q, c, hc⟩ := S.pin i a e
    refine ⟨q, ?_⟩
    by_cases hi : i ∈ rfs vas
    · obtain ⟨n, hn⟩ := mem_rfs.mp hi
      obtain ⟨l1, l2⟩ := lent hn hc q
      obtain ⟨o, c', h4, _⟩ := A.outs n true c a l1 l2
      exact ⟨c', wb_in nd hn h4 hc⟩
    · exact ⟨c, by rw [wb_out vas outs ρ hi]; exact hc⟩
  · rcases get e with ⟨_, e⟩ | ⟨_, _, _, _, _, _, _, _, _, e', _⟩
    · exact ⟨e, rfl⟩
    · cases e'
  · rcases get e with ⟨_, e⟩ | ⟨_, _, _, _, _, _, _, _, _, e', _⟩
    · exact ⟨e, rfl⟩
    · cases e'
  · obtain ⟨j, p, c, h1, h2, _⟩ := lb q
    exact w j p c h1 h2
  · cases q : Z' b with
    | none => rfl
    | some u =>
      rcases A.n b u q with e | e
      · rw [zb] at e; cases e
      · rw [ho] at e; cases e
  · rcases get e with ⟨_, e⟩ | ⟨_, p', c', _, _, _, _, hr, _⟩
    · exact w j p c e
    · exact w j p' c' hr
theorem wb_ll : ∀ {vas : List Va} {outs : List Sl} {ρ : Rho} {i : Nat} {xss : Nt}, (wb vas outs ρ)[i]? = some (Sl.ll xss) → ρ[i]? = some (Sl.ll xss)
  | [], os, ρ, i, _, h => by rw [wb_nil] at h; exact h
  | .pu d :: vs, [], ρ, i, _, h => h
  | .rf j :: vs, [], ρ, i, _, h => h
  | .pu d :: vs, o :: os, ρ, i, _, h => by rw [wb_pu] at h; exact wb_ll h
  | .rf j :: vs, .no :: os, ρ, i, _, h => wb_ll (vas := vs) (outs := os) h
  | .rf j :: vs, .pu _ :: os, ρ, i, _, h => wb_ll (vas := vs) (outs := os) h
  | .rf j :: vs, .ll _ :: os, ρ, i, _, h => wb_ll (vas := vs) (outs := os) h
  | .rf j :: vs, .al _ _ :: os, ρ, i, _, h => wb_ll (vas := vs) (outs := os) h
  | .rf j :: vs, .ow p1 c1 :: os, ρ, i, _, h => by
    rw [wb_rf] at h
    have h' := wb_ll h
    unfold setCt at h'
    split at h'
    · rename_i q c2 hq
      by_cases e : j = i
      · subst e
        rw [List.getElem?_set_self (List.getElem?_eq_some_iff.mp hq).1] at h'
        cases h'
      · rw [List.getElem?_set_ne e] at h'; exact h'
    · exact h'
theorem Sim.inFAfter (S : Sim K G Z ρ σ H) (r : VasR K Z ρ σ H vs vas) (h : argsOf ρ vas = some as) {Z' H' : Hp} (A : After K Z H vs as outs Z' H') {b : Addr} (f : InF (wb vas outs ρ) σ H' b) : InF ρ σ H b := by
  obtain ⟨i, xss, a, bs, e1, e2, e3, hb⟩ := f
  refine S.lx.back (fun c o fc ho => A.fr c o ho fun ⟨n, p, q, h1, h2⟩ => ?_) ⟨i, xss, a, bs, wb_ll e1, e2, e3, hb⟩
  obtain ⟨va, q1, q2⟩ := (argsOf_get (i := n) h).2 _ h1
  obtain ⟨_, j, p', rfl, hr⟩ := argOf_ow q2
  obtain ⟨v, q3, q4⟩ := vasR_get r q1
  rw [h2] at q3
  cases q3
  exact (S.lx.live fc).2.2.2 j p' q hr q4
theorem Sim.resAfter (S : Sim K G Z ρ σ H) {Z' H' : Hp} {v : V} {x : Rs} (hr : ResG K Z' H H' v x) {ρ' : Rho} (S' : Sim K G Z' ρ' σ H') (hk : ∀ (i : Nat) p c, ρ'[i]? = some (Sl.ow p c) → ∃ p' c', ρ[i]? = some (Sl.ow p' c')) (hf : ∀ b, InF ρ' σ H' b → InF ρ σ H b) : RsR K G Z' ρ' σ H' v x := by
  cases x with
  | pu d => exact hr
  | nw c =>
    obtain ⟨a, o, e, n, z, ho, cr⟩ := hr
    refine ⟨a, o, e, ho, cr, z, S.freshIn n, fun i p c' hi q => ?_, fun f => (S.newA n).2 (hf a f)⟩
    obtain ⟨p', c'', hi'⟩ := hk i p c' hi
    obtain ⟨a', o', q', ho', _⟩ := S.ow i p' c'' hi'
    rw [q] at q'
    cases q'
    rw [n] at ho'
    cases ho'
theorem wb_kind : ∀ {vas : List Va} {outs : List Sl} {ρ : Rho} {i : Nat} {p : Bool} {c : Ct}, (wb vas outs ρ)[i]? = some (Sl.ow p c) → ∃ p' c', ρ[i]? = some (Sl.ow p' c')
  | [], os, ρ, i, p, c, h => by rw [wb_nil] at h; exact ⟨p, c, h⟩
  | .pu d :: vs, [], ρ, i, p, c, h => ⟨p, c, h⟩
  | .rf j :: vs, [], ρ, i, p, c, h => ⟨p, c, h⟩
  | .pu d :: vs, o :: os, ρ, i, p, c, h => by rw [wb_pu] at h; exact wb_kind h
  | .rf j :: vs, .no :: os, ρ, i, p, c, h => wb_kind (vas := vs) (outs := os) h
  | .rf j :: vs, .pu _ :: os, ρ, i, p, c, h => wb_kind (vas := vs) (outs := os) h
  | .rf j :: vs, .ll _ :: os, ρ, i, p, c, h => wb_kind (vas := vs) (outs := os) h
  | .rf j :: vs, .al _ _ :: os, ρ, i, p, c, h => wb_kind (vas := vs) (outs := os) h
  | .rf j :: vs, .ow p1 c1 :: os, ρ, i, p, c, h => by
    rw [wb_rf] at h
    obtain ⟨p', c', h'⟩ := wb_kind h
    unfold setCt at h'
    split at h'
    · rename_i q c2 hq
      by_cases e : j = i
      · subst e; exact ⟨q, c2, hq⟩
      · rw [List.getElem?_set_ne e] at h'; exact ⟨p', c', h'⟩
    · exact ⟨p', c', h'⟩
end
section
variable {X : Cx} {G : Gm} {B : Wish} {CX : CXT} {k n : Nat} {f : Addr} {fd : FuncData} {ps : List Str} {g : Fn} {E : XK} {x : Str} {p pos : Pos} {e : Expr} {es : List Expr} {oas : O (List Va)}
/-- what a callee's exception is wished to do here -/
theorem run_call {K : PySem.W.Frag} {σ : L2.St} {H : Hp} {Q : VK} (hB : ∀ x ρ Z H, B x ρ Z σ H → ∀ cls d, XnR K Z x cls d H → (∀ dd, d = some dd → G.H0 dd = none) → E cls d H) (hnd : True) (hl : ∀ ρ vas ρ1, oas ρ = .ok vas ρ1 → vas.length = n)
    (w : Run K G B (RsR K G) (oCall g oas) σ H Q) : Run K G B (VasR K) oas σ H fun vs H1 => spD K n g vs H1 Q E := by
  obtain ⟨Z, ρ, S, p⟩ := w
  refine ⟨Z, ρ, S, ?_⟩
  cases ho : oas ρ with
  | st => unfold oCall at p; rw [ho] at p; exact p.elim
  | ex y ρ1 => unfold oCall at p; rw [ho] at p; exact p
  | ok vas ρ1 =>
    unfold oCall at p
    rw [ho] at p
    intro vs Z1 H1 e1 S1 r1
    have p1 : Post K G B (RsR K G) σ Z (call1 g vas ρ1) Q := p
    have r1 : VasR K Z1 ρ1 σ H1 vs vas := r1
    unfold call1 at p1
    split at p1
    · rename_i as ha
      split at p1
      · rename_i nd
        refine ⟨by rw [Paired.length r1]; exact hl ρ vas ρ1 ho, Z1, as, S1.zh, args_of S1 r1 ha nd, ?_⟩
        cases hg : g as with
        | st => rw [hg] at p1; exact p1
        | ret r outs =>
          rw [hg] at p1
          intro v Z' H' A hr
          have S2 := S1.after r1 ha nd A
          exact p1 v Z' H' (e1.trans A.z) S2 (S1.resAfter hr S2 (fun i p c h => wb_kind h) fun b f => S1.inFAfter r1 ha A f)
        | exc y outs =>
          rw [hg] at p1
          intro cls d Z' H' A hx hf
          exact hB _ _ _ _ (p1 Z' H' (e1.trans A.z) (S1.after r1 ha nd A)) cls d hx fun dd e => S1.freshIn (hf dd e)
      · exact p1.elim
    · exact p1.elim
/-- the number of arguments -/
def Many {α : Type} (n : Nat) (o : O (List α)) : Prop := ∀ ρ as ρ1, o ρ = .ok as ρ1 → as.length = n
theorem many_nil {α : Type} : Many 0 (oNil : O (List α)) := fun ρ as ρ1 h => by cases h; rfl
theorem many_cons {α : Type} {m : Nat} {o : O α} {o' : O (List α)} (h : Many m o') : Many (m + 1) (oCons o o') := fun ρ as ρ1 q => by
  unfold oCons at q
  cases h1 : o ρ with
  | st => rw [h1] at q; cases q
  | ex x ρ2 => rw [h1] at q; cases q
  | ok a ρ2 =>
    rw [h1] at q
    cases h2 : o' ρ2 with
    | st => simp [h2] at q
    | ex x ρ3 => simp [h2] at q
    | ok as' ρ3 =>
      simp [h2] at q
      obtain ⟨rfl, rfl⟩ := q
      simp [h ρ2 as' ρ3 h2]
theorem rd_call (F : FnOk X.prog X.w X.K X.mg X.base CX0 k f fd ps (spD X.K n g)) (hr : Room k X.A) (hg : Gl X x) (hm : X.mg x = some (.ref f)) (hk : PySem.W.keepIn X.K (.ref f) = true) (hb : Binds X.K fd ps [])
    (ha : AD X G noB (e :: es) oas) (hl : Many n oas) (hdb : (x == ("__debug__" : Str)) = false := by decide) (he : starEach (e :: es) X.env = (false, eval e X.env) :: starEach es X.env := by rfl) (hpl : (backTo pos (starEach es X.env)).any (·.1) = false := by rfl) :
    RD X G noB (.Call (.Name x p) (e :: es) [] pos) (oCall g oas) :=
  pe_imp (pe_call F hr hg hm hk hb .nil pass0 ha hdb he hpl) fun σ H Q w => by
    have q := run_call (E := E0) (n := n) (fun _ _ _ _ h => h.elim) trivial hl w
    unfold tCall
    simp only [List.append_nil]
    exact q
theorem rd_call0 (F : FnOk X.prog X.w X.K X.mg X.base CX0 k f fd ps (spD X.K 0 g)) (hr : Room k X.A) (hg : Gl X x) (hm : X.mg x = some (.ref f)) (hk : PySem.W.keepIn X.K (.ref f) = true) (hb : Binds X.K fd ps [])
    (hdb : (x == ("__debug__" : Str)) = false := by decide) : RD X G noB (.Call (.Name x p) [] [] pos) (oCall g oNil) :=
  pe_imp (pe_call0 F hr hg hm hk hb .nil pass0 hdb) fun σ H Q w => by
    have q := run_call (E := E0) (n := 0) (fun _ _ _ _ h => h.elim) trivial many_nil w
    obtain ⟨Z, ρ, S, p⟩ := q
    exact p [] Z H (.refl _) S .nil
end
end Ow
namespace Ow
open PySem L2
/-! ### dicts -/
def keyOf : D → Option Key
  | .int i => some (.inl i)
  | .str x => some (.inr x)
  | _ => none
def keysOf : List D → Option (List Key)
  | [] => some []
  | d :: ds => match keyOf d, keysOf ds with
    | some k, some ks => some (k :: ks)
    | _, _ => none
def tkOf : D → Option (List Key)
  | .tuple ds => keysOf ds
  | _ => none
section
variable {κ : Type} [DecidableEq κ]
def valD (kvs : List (κ × D)) (k : κ) : Option D := (kvs.find? fun kv => decide (kv.1 = k)).map (·.2)
def putD (kvs : List (κ × D)) (k : κ) (v : D) : List (κ × D) :=
  if (kvs.any fun kv => decide (kv.1 = k)) = true then kvs.map (fun kv => if kv.1 = k then (kv.1, v) else kv) else kvs ++ [(k, v)]
theorem kv_val {K : PySem.W.Frag} {Z : Hp} {kvs : List (κ × V)} {eds : List (κ × D)} (r : KvR K Z kvs eds) (k : κ) : (valD eds k = none ∧ valV kvs k = none) ∨ ∃ d v, valD eds k = some d ∧ valV kvs k = some v ∧ Rp K Z v d := by
  induction r with
  | nil => exact .inl ⟨rfl, rfl⟩
  | @cons p q ps qs h1 h2 ih =>
    obtain ⟨e, r1⟩ := h1
    by_cases hk : p.1 = k
    · refine .inr ⟨q.2, p.2, ?_, ?_, r1⟩
      · unfold valD; rw [List.find?_cons]; simp [← e, hk]
      · unfold valV; rw [List.find?_cons]; simp [hk]
    · have e1 : valD (q :: qs) k = valD qs k := by unfold valD; rw [List.find?_cons]; simp [← e, hk]
      have e2 : valV (p :: ps) k = valV ps k := by unfold valV; rw [List.find?_cons]; simp [hk]
      rw [e1, e2]
      exact ih
theorem kv_any {K : PySem.W.Frag} {Z : Hp} {kvs : List (κ × V)} {eds : List (κ × D)} (r : KvR K Z kvs eds) (k : κ) : (kvs.any fun kv => decide (kv.1 = k)) = (eds.any fun kv => decide (kv.1 = k)) := by
  induction r with
  | nil => rfl
  | cons h1 h2 ih => rw [List.any_cons, List.any_cons, ih, h1.1]
theorem kv_upd {K : PySem.W.Frag} {Z : Hp} (k : κ) {v : V} {d : D} (rv : Rp K Z v d) {kvs : List (κ × V)} {eds : List (κ × D)} (r : KvR K Z kvs eds) : KvR K Z (kvs.map (fun kv => if kv.1 = k then (kv.1, v) else kv)) (eds.map (fun kv => if kv.1 = k then (kv.1, d) else kv)) := by
  induction r with
  | nil => exact .nil
  | @cons p q ps qs h1 h2 ih =>
    refine .cons ?_ ih
    obtain ⟨p1, p2⟩ := p
    obtain ⟨q1, q2⟩ := q
    obtain ⟨e, r1⟩ := h1
    have e : p1 = q1 := e
    subst e
    dsimp only
    split
    · exact ⟨rfl, rv⟩
    · exact ⟨rfl, r1⟩
theorem kv_app {K : PySem.W.Frag} {Z : Hp} (k : κ) {v : V} {d : D} (rv : Rp K Z v d) {kvs : List (κ × V)} {eds : List (κ × D)} (r : KvR K Z kvs eds) : KvR K Z (kvs ++ [(k, v)]) (eds ++ [(k, d)]) := by
  induction r with
  | nil => exact .cons ⟨rfl, rv⟩ .nil
  | cons h1 h2 ih => exact .cons h1 ih
theorem kv_put {K : PySem.W.Frag} {Z : Hp} {kvs : List (κ × V)} {eds : List (κ × D)} (r : KvR K Z kvs eds) (k : κ) {v : V} {d : D} (rv : Rp K Z v d) : KvR K Z (putK kvs k v) (putD eds k d) := by
  unfold putK putD
  rw [kv_any r k]
  split
  · exact kv_upd k rv r
  · exact kv_app k rv r
theorem kv_length {K : PySem.W.Frag} {Z : Hp} {kvs : List (κ × V)} {eds : List (κ × D)} (r : KvR K Z kvs eds) : kvs.length = eds.length := Paired.length r
end
theorem keyOf_v {K : PySem.W.Frag} {Z : Hp} {v : V} {d : D} {k : Key} (r : Rp K Z v d) (h : keyOf d = some k) : v = kV k := by
  unfold keyOf at h
  split at h
  · cases h; cases r; rfl
  · cases h; cases r; rfl
  · cases h
theorem keysOf_v {K : PySem.W.Frag} {Z : Hp} : ∀ {vs : List V} {ds : List D} {ks : List Key}, RpAll K Z vs ds → keysOf ds = some ks → vs = ks.map kV
  | _, [], _, r, h => by cases h; cases r; rfl
  | _, d :: ds, ks, r, h => by
    unfold keysOf at h
    split at h
    · cases h
      cases r with
      | cons r1 r2 => rw [keyOf_v r1 ‹_›, keysOf_v r2 ‹_›]; rfl
    · cases h
/-- a look: none where the key is of another kind -/
def dGet : Ct → D → Option (Option D)
  | .dk kvs, k => (keyOf k).map (valD kvs)
  | .dt kvs, k => (tkOf k).map (valD kvs)
  | _, _ => none
def dPut : Ct → D → D → Option Ct
  | .dk kvs, k, d => if kvs.length < 16000000 then (keyOf k).map fun k => .dk (putD kvs k d) else none
  | .dt kvs, k, d => if kvs.length < 16000000 then (tkOf k).map fun k => .dt (putD kvs k d) else none
  | _, _, _ => none
section
variable {K : PySem.W.Frag} {Z H : Hp} {a : Addr} {o : HO} {c : Ct} {y : V} {k : D}
theorem dGet_v (ho : H a = some o) (e : Same Z H) (r : CtR K Z o c) (ry : Rp K Z y k) {x : Option D} (h : dGet c k = some x) : ∃ xv : Option V, DGet H a y xv ∧ ((x = none ∧ xv = none) ∨ ∃ d v, x = some d ∧ xv = some v ∧ Rp K Z v d) := by
  unfold dGet at h
  split at h
  · rename_i kvs
    cases q : keyOf k with
    | none => rw [q] at h; cases h
    | some kk =>
      rw [q] at h
      cases h
      cases o with
      | dK vs => rw [keyOf_v ry q]; exact ⟨_, DGet.k ho, (kv_val (show KvR K Z vs kvs from r) kk)⟩
      | _ => exact r.elim
  · rename_i kvs
    cases q : tkOf k with
    | none => rw [q] at h; cases h
    | some kk =>
      rw [q] at h
      cases h
      unfold tkOf at q
      split at q
      · rename_i ds
        cases ry with
        | tup h1 h2 =>
          rw [keysOf_v h2 q] at h1
          cases o with
          | dT vs => exact ⟨_, DGet.t ho (e _ _ h1), (kv_val (show KvR K Z vs kvs from r) kk)⟩
          | _ => exact r.elim
      · cases q
  · cases h
theorem dPut_v (ho : H a = some o) (e : Same Z H) (r : CtR K Z o c) (ry : Rp K Z y k) {d : D} {v : V} (rv : Rp K Z v d) {c' : Ct} (h : dPut c k d = some c') : ∃ o', DPut H a y v (upd H a o') ∧ CtR K Z o' c' := by
  unfold dPut at h
  split at h
  · rename_i kvs
    split at h
    · rename_i hl
      cases q : keyOf k with
      | none => rw [q] at h; cases h
      | some kk =>
        rw [q] at h
        cases h
        cases o with
        | dK vs =>
          rw [keyOf_v ry q]
          have r' : KvR K Z vs kvs := r
          exact ⟨_, DPut.k ho (by rw [kv_length r']; exact lim_lt hl), kv_put r' kk rv⟩
        | _ => exact r.elim
    · cases h
  · rename_i kvs
    split at h
    · rename_i hl
      cases q : tkOf k with
      | none => rw [q] at h; cases h
      | some kk =>
        rw [q] at h
        cases h
        unfold tkOf at q
        split at q
        · rename_i ds
          cases ry with
          | tup h1 h2 =>
            rw [keysOf_v h2 q] at h1
            cases o with
            | dT vs =>
              have r' : KvR K Z vs kvs := r
              exact ⟨_, DPut.t ho (e _ _ h1) (by rw [kv_length r']; exact lim_lt hl), kv_put r' kk rv⟩
            | _ => exact r.elim
        · cases q
    · cases h
  · cases h
end
def isDic (s : Option Sl) : Bool := match s with
  | some (.ow _ (.dk _)) => true
  | some (.ow _ (.dt _)) => true
  | _ => false
def vaDic (ρ : Rho) : Va → Bool
  | .rf i => isDic ρ[i]?
  | _ => false
@[simp] theorem vaDic_pu (ρ : Rho) (d : D) : vaDic ρ (.pu d) = false := rfl
def ctOf (ρ : Rho) : Va → Option Ct
  | .rf i => match ρ[i]? with
    | some (.ow _ c) => some c
    | _ => none
  | _ => none
/-! .. {} -/
def oNewK : O Rs := fun ρ => .ok (.nw (.dk [])) ρ
def oNewT : O Rs := fun ρ => .ok (.nw (.dt [])) ρ
section
variable {X : Cx} {G : Gm} {B : Wish} {pos : Pos}
theorem rd_newK : RD X G B (.Dict [] [] pos) oNewK := pe_imp pe_dnewK fun σ H Q ⟨Z, ρ, S, p⟩ q hq =>
  p.fin S (.loose S.zh hq _) ⟨q, .dK [], rfl, hq, S.fresh hq, upd_same, (show KvR X.K Z [] [] from .nil)⟩
theorem rd_newT : RD X G B (.Dict [] [] pos) oNewT := pe_imp pe_dnewT fun σ H Q ⟨Z, ρ, S, p⟩ q hq =>
  p.fin S (.loose S.zh hq _) ⟨q, .dT [], rfl, hq, S.fresh hq, upd_same, (show KvR X.K Z [] [] from .nil)⟩
end
/-! .. a[b], a in b, whatever stands there -/
def dix1 (a b : Va) (ρ : Rho) : M Rs := match ctOf ρ a, rdV ρ b with
  | some c, some k => match dGet c k with
    | some (some d) => .ok (.pu d) ρ
    | _ => .st
  | _, _ => .st
def ixA1 (a b : Va) (ρ : Rho) : M Rs := if vaDic ρ a = true then dix1 a b ρ else bin1 fIx a b ρ
@[simp] theorem ixA1_pu (a : D) (b : Va) (ρ : Rho) : ixA1 (.pu a) b ρ = bin1 fIx (.pu a) b ρ := rfl
def oIxA (oa ob : O Va) : O Rs := fun ρ => (oa ρ).bind fun a ρ1 => (ob ρ1).bind fun b ρ2 => ixA1 a b ρ2
def din1 (neg : Bool) (a b : Va) (ρ : Rho) : M Rs := match rdV ρ a, ctOf ρ b with
  | some k, some c => match dGet c k with
    | some o => .ok (.pu (.bool (if neg then !o.isSome else o.isSome))) ρ
    | none => .st
  | _, _ => .st
def inA1 (neg : Bool) (a b : Va) (ρ : Rho) : M Rs := if vaDic ρ b = true then din1 neg a b ρ else bin1 (fIn neg) a b ρ
@[simp] theorem inA1_pu (neg : Bool) (a : Va) (b : D) (ρ : Rho) : inA1 neg a (.pu b) ρ = bin1 (fIn neg) a (.pu b) ρ := rfl
def oInA (neg : Bool) (oa ob : O Va) : O Rs := fun ρ => (oa ρ).bind fun a ρ1 => (ob ρ1).bind fun b ρ2 => inA1 neg a b ρ2
section
variable {X : Cx} {G : Gm} {B : Wish} {a b : Expr} {pos : Pos} {oa ob : O Va}
theorem ctOf_at {K : PySem.W.Frag} {Z : Hp} {ρ : Rho} {σ : St} {H : Hp} {v : V} {x : Va} {c : Ct} (S : Sim K G Z ρ σ H) {ρ' : Rho} {H' : Hp} (r : VaR K Z ρ' σ H' v x) (h : ctOf ρ x = some c) : ∃ ad o, v = .ref ad ∧ H ad = some o ∧ CtR K Z o c := by
  cases x with
  | pu d => cases h
  | rf i =>
    unfold ctOf at h
    dsimp only at h
    split at h
    · rename_i p c' hr
      cases h
      obtain ⟨ad, o, q, ho, rc, _⟩ := S.ow i p _ hr
      have r : σ[i]? = some (some v) := r
      rw [q] at r
      cases r
      exact ⟨ad, o, rfl, ho, rc⟩
    · cases h
/-- two operands, then one of two rules, as they turn out -/
theorem run_two {K : PySem.W.Frag} {R1 R2' : L2.R2} {f1 f2 : Va → Va → Rho → M Rs} {t : Rho → Va → Va → Bool} {σ : St} {H : Hp} {Q : VK}
    (h1 : ∀ σ Z H ρ x y a b Q, Sim K G Z ρ σ H → VaR K Z ρ σ H x a → VaR K Z ρ σ H y b → t ρ a b = true → Post K G B (RsR K G) σ Z (f1 a b ρ) Q → R1 x y H Q)
    (h2 : ∀ σ Z H ρ x y a b Q, Sim K G Z ρ σ H → VaR K Z ρ σ H x a → VaR K Z ρ σ H y b → t ρ a b = false → Post K G B (RsR K G) σ Z (f2 a b ρ) Q → R2' x y H Q)
    (w : Run K G B (RsR K G) (fun ρ => (oa ρ).bind fun a ρ1 => (ob ρ1).bind fun b ρ2 => if t ρ2 a b = true then f1 a b ρ2 else f2 a b ρ2) σ H Q) :
    tOp R1 (Run K G B (VaR K) oa) (Run K G B (VaR K) ob) σ H Q ∨ tOp R2' (Run K G B (VaR K) oa) (Run K G B (VaR K) ob) σ H Q := by
  obtain ⟨Z, ρ, S, p⟩ := w
  have p : Post K G B (RsR K G) σ Z ((oa ρ).bind fun a ρ1 => (ob ρ1).bind fun b ρ2 => if t ρ2 a b = true then f1 a b ρ2 else f2 a b ρ2) Q := p
  cases ha : oa ρ with
  | st => rw [ha] at p; exact p.elim
  | ex x ρ1 => rw [ha] at p; exact .inl ⟨Z, ρ, S, by rw [ha]; exact p⟩
  | ok a ρ1 =>
    rw [ha] at p
    have p : Post K G B (RsR K G) σ Z ((ob ρ1).bind fun b ρ2 => if t ρ2 a b = true then f1 a b ρ2 else f2 a b ρ2) Q := p
    cases hb : ob ρ1 with
    | st => rw [hb] at p; exact p.elim
    | ex x ρ2 =>
      rw [hb] at p
      refine .inl ⟨Z, ρ, S, ?_⟩
      rw [ha]
      intro x Z1 H1 e1 S1 r1
      refine ⟨Z1, ρ1, S1, ?_⟩
      rw [hb]
      exact fun Z2 H2 e2 S2 => p Z2 H2 (e1.trans e2) S2
    | ok b ρ2 =>
      rw [hb] at p
      have p : Post K G B (RsR K G) σ Z (if t ρ2 a b = true then f1 a b ρ2 else f2 a b ρ2) Q := p
      have mono : ∀ {Z1 : Hp} {m : M Rs}, Same Z Z1 → Post K G B (RsR K G) σ Z m Q → Post K G B (RsR K G) σ Z1 m Q := fun {Z1 m} e h => by
        cases m with
        | st => exact h
        | ok r ρ3 => exact fun v Z' H' e' => h v Z' H' (e.trans e')
        | ex x ρ3 => exact fun Z' H' e' => h Z' H' (e.trans e')
      cases ht : t ρ2 a b with
      | true =>
        rw [ht, if_pos rfl] at p
        refine .inl ⟨Z, ρ, S, ?_⟩
        rw [ha]
        intro x Z1 H1 e1 S1 r1
        refine ⟨Z1, ρ1, S1, ?_⟩
        rw [hb]
        intro y Z2 H2 e2 S2 r2
        exact h1 σ Z2 H2 ρ2 x y a b Q S2 (VaR.mono r1 e2) r2 ht (mono (e1.trans e2) p)
      | false =>
        rw [ht, if_neg Bool.false_ne_true] at p
        refine .inr ⟨Z, ρ, S, ?_⟩
        rw [ha]
        intro x Z1 H1 e1 S1 r1
        refine ⟨Z1, ρ1, S1, ?_⟩
        rw [hb]
        intro y Z2 H2 e2 S2 r2
        exact h2 σ Z2 H2 ρ2 x y a b Q S2 (VaR.mono r1 e2) r2 ht (mono (e1.trans e2) p)
theorem rd_ixA {k : Nat} (hr : Room k X.A) (ha : ED X G B a oa) (hb : ED X G B b ob) (hs : PlainIx b := by exact fun _ _ => rfl) (hs' : NoSl b := by exact fun _ _ => rfl) : RD X G B (.Subscript a b pos) (oIxA oa ob) := by
  refine pe_imp (pe_alt (pe_dget (hu_of hr) ha hb hs') (pe_ix ix_seq ha hb hs)) fun σ H Q w => ?_
  refine run_two (R1 := fun x y H Q => ∃ ad v, x = .ref ad ∧ DGet H ad y (some v) ∧ Q v H) (R2' := rIx X.K) (f1 := dix1) (f2 := bin1 fIx) (t := fun ρ a b => vaDic ρ a) ?_ ?_ w
  · intro σ Z H ρ x y a b Q S r1 r2 _ p
    unfold dix1 at p
    split at p
    · rename_i c kd hc hk
      split at p
      · rename_i d hd
        obtain ⟨ad, o, rfl, ho, rc⟩ := ctOf_at S r1 hc
        have rk : Rp X.K Z y kd := (S.rdb r2 hk).keptD fun ds e => by subst e; cases c <;> cases hd
        obtain ⟨xv, g, q⟩ := dGet_v ho S.zh rc rk hd
        rcases q with ⟨e, _⟩ | ⟨d', v, e, rfl, rv⟩
        · cases e
        · cases e
          exact ⟨ad, v, rfl, g, p.fin S (.refl S.zh) rv⟩
      · exact p.elim
    · exact p.elim
  · intro σ Z H ρ x y a b Q S r1 r2 _ p
    exact bin1_run binS_ix S r1 r2 p
theorem rd_inA {k : Nat} (hr : Room k X.A) (ha : ED X G B a oa) (hb : ED X G B b ob) (hm : behindInMarks .In b = false := by rfl) : RD X G B (.Compare a [.In] [b] pos) (oInA false oa ob) := by
  refine pe_imp (pe_alt (pe_cmp (pc_din (hu_of hr) ha hb) hm) (pe_cmpR op_inAll ha hb hm)) fun σ H Q w => ?_
  refine run_two (R1 := fun y x H Q => ∃ ad o, x = .ref ad ∧ DGet H ad y o ∧ Q (.bl o.isSome) H) (R2' := rInAll X.K false) (f1 := din1 false) (f2 := bin1 (fIn false)) (t := fun ρ a b => vaDic ρ b) ?_ ?_ w
  · intro σ Z H ρ y x a b Q S r1 r2 _ p
    unfold din1 at p
    split at p
    · rename_i kd c hk hc
      split at p
      · rename_i o hd
        obtain ⟨ad, ob, rfl, ho, rc⟩ := ctOf_at S r2 hc
        have rk : Rp X.K Z y kd := (S.rdb r1 hk).keptD fun ds e => by subst e; cases c <;> cases hd
        obtain ⟨xv, g, q⟩ := dGet_v ho S.zh rc rk hd
        refine ⟨ad, xv, rfl, g, ?_⟩
        rcases q with ⟨rfl, rfl⟩ | ⟨d', v, rfl, rfl, rv⟩
        · exact p.fin S (.refl S.zh) (.bl _)
        · exact p.fin S (.refl S.zh) (.bl _)
      · exact p.elim
    · exact p.elim
  · intro σ Z H ρ x y a b Q S r1 r2 _ p
    exact bin1_run binS_in S r1 r2 p
theorem rd_notinA {k : Nat} (hr : Room k X.A) (ha : ED X G B a oa) (hb : ED X G B b ob) (hm : behindInMarks .NotIn b = false := by rfl) : RD X G B (.Compare a [.NotIn] [b] pos) (oInA true oa ob) := by
  refine pe_imp (pe_alt (pe_cmp (pc_dnotin (hu_of hr) ha hb) hm) (pe_cmpR op_notInAll ha hb hm)) fun σ H Q w => ?_
  refine run_two (R1 := fun y x H Q => ∃ ad o, x = .ref ad ∧ DGet H ad y o ∧ Q (.bl (!o.isSome)) H) (R2' := rInAll X.K true) (f1 := din1 true) (f2 := bin1 (fIn true)) (t := fun ρ a b => vaDic ρ b) ?_ ?_ w
  · intro σ Z H ρ y x a b Q S r1 r2 _ p
    unfold din1 at p
    split at p
    · rename_i kd c hk hc
      split at p
      · rename_i o hd
        obtain ⟨ad, ob, rfl, ho, rc⟩ := ctOf_at S r2 hc
        have rk : Rp X.K Z y kd := (S.rdb r1 hk).keptD fun ds e => by subst e; cases c <;> cases hd
        obtain ⟨xv, g, q⟩ := dGet_v ho S.zh rc rk hd
        refine ⟨ad, xv, rfl, g, ?_⟩
        rcases q with ⟨rfl, rfl⟩ | ⟨d', v, rfl, rfl, rv⟩
        · exact p.fin S (.refl S.zh) (.bl _)
        · exact p.fin S (.refl S.zh) (.bl _)
      · exact p.elim
    · exact p.elim
  · intro σ Z H ρ x y a b Q S r1 r2 _ p
    exact bin1_run binS_in S r1 r2 p
theorem td_rdc {o : O Rs} {op : CmpOp} (h : RD X G B (.Compare a [op] [b] pos) o) (he : ∀ whole, isTrue (.Compare a [op] [b] pos) X.env whole = (do let v ← whole; standAt (Expr.Compare a [op] [b] pos).pos; holding [v] (truthy v)) := by intro _; rfl) : TD X G B (.Compare a [op] [b] pos) (oTst o) := td_rd h he
end
/-! .. d[k] = e, xs[i] = e -/
theorem ps_alt {X : Cx} {e : Stmt} {t t' : TS} (h : PS X e t) (h' : PS X e t') : PS X e (fun D σ H => t D σ H ∨ t' D σ H) := ⟨fun pins s σ H D I w => w.elim (h.run pins s σ H D I) (h'.run pins s σ H D I)⟩
def stD1 (k : Nat) (d i : D) (ρ : Rho) : Mo := match ρ[k]? with
  | some (.ow p c) => match dPut c i d with
    | some c' => .nx (ρ.set k (.ow p c'))
    | none => .st
  | _ => .st
def oStD (k : Nat) (ov oi : O D) : Os := fun ρ => (ov ρ).bindS fun d ρ1 => match ρ1[k]? with
  | some (.ow _ _) => (oi ρ1).bindS fun i ρ2 => stD1 k d i ρ2
  | _ => .st
def oStA (k : Nat) (ov oi : O D) : Os := fun ρ => if isDic ρ[k]? = true then oStD k ov oi ρ else oStL k ov oi ρ
section
variable {X : Cx} {G : Gm} {B : Wish} {e o ix : Expr} {pos pos' tpos npos : Pos} {x : Str}
theorem sd_stD (k : Nat) {kr : Nat} {ov oi : O D} (hr : Room kr X.A) (hv : PD X G B e ov) (hi : PD X G B ix oi)
    (hN : X.N[k]? = some x := by rfl) (hvis : Vis X.env.scope x := by first | exact Or.inl rfl | exact Or.inr (Or.inl rfl) | exact Or.inr (Or.inr rfl)) (hd : (x == ("__debug__" : Str)) = false := by decide)
    (hcd : (x == ("__classdict__" : Str)) = false := by decide) (hs : swapsWith e (some (.Subscript (.Name x npos) ix pos')) pos.line X.env = pure false := by rfl) : SD X G B (.Assign [.Subscript (.Name x npos) ix pos'] e pos) (oStD k ov oi) :=
  ps_imp (ps_dput (hu_of hr) (pe_var (i := k) hN hvis hd hcd) hi hv hs) fun D σ H w => runS_bind (C := fun v H1 => tVar k σ H1 fun x H2 => Run X.K G B (PuR X.K) oi σ H2 fun y H3 => ∃ a H4, x = .ref a ∧ DPut H3 a y v H4 ∧ D.nx σ H4) w fun v d ρ1 Z1 H1 S1 rv p1 => by
    split at p1
    · rename_i p c h
      obtain ⟨a, ob, q, ho, r1, z, _⟩ := S1.ow k _ _ h
      refine ⟨_, q, Z1, ρ1, S1, PostS.bind p1 fun iv di ρ2 Z2 H2 e2 S2 r2 p2 => ?_⟩
      unfold stD1 at p2
      split at p2
      · rename_i p' c' h'
        split at p2
        · rename_i c2 hc
          obtain ⟨a2, o2, q2, ho2, r2', z2, _⟩ := S2.ow k _ _ h'
          rw [q] at q2
          cases q2
          obtain ⟨o', g, rc⟩ := dPut_v ho2 S2.zh r2' r2 (Rp.mono rv e2) hc
          exact ⟨a, _, rfl, g, p2 σ Z2 _ (.refl _) (S2.write h' q rc)⟩
        · exact p2.elim
      · exact p2.elim
    · exact p1.elim
theorem sd_stA (k : Nat) {kr : Nat} {ov oi : O D} (hr : Room kr X.A) (hv : PD X G B e ov) (hi : PD X G B ix oi)
    (hN : X.N[k]? = some x := by rfl) (hvis : Vis X.env.scope x := by first | exact Or.inl rfl | exact Or.inr (Or.inl rfl) | exact Or.inr (Or.inr rfl)) (hd : (x == ("__debug__" : Str)) = false := by decide)
    (hcd : (x == ("__classdict__" : Str)) = false := by decide) (hs : swapsWith e (some (.Subscript (.Name x npos) ix pos')) pos.line X.env = pure false := by rfl)
    (ha : ∀ v, assign (.Subscript (.Name x npos) ix pos') X.env v = (do
      let ov ← holding [v] (eval (.Name x npos) X.env)
      let iv ← holding [v, ov] (eval ix X.env)
      standAt pos'
      holding [v, ov, iv] (setItem ov iv v)
      release [v, ov, iv] []) := by intro _; rfl)
    (hs1 : swapsWithSole [.Subscript (.Name x npos) ix pos'] e pos.line X.env = pure false := by rfl) (hw : swappedStores [.Subscript (.Name x npos) ix pos'] e X.env = pure none := by rfl)
    (h1 : (assignEach [.Subscript (.Name x npos) ix pos'] X.env).map (·.2) = [assign (.Subscript (.Name x npos) ix pos') X.env] := by rfl) :
    SD X G B (.Assign [.Subscript (.Name x npos) ix pos'] e pos) (oStA k ov oi) :=
  ps_imp (ps_alt (sd_stD k hr hv hi hN hvis hd hcd hs) (sd_stL k hv hi hN hvis hd hcd ha hs1 hw h1)) fun D σ H ⟨Z, ρ, S, p⟩ => by
    unfold oStA at p
    split at p
    · exact .inl ⟨Z, ρ, S, p⟩
    · exact .inr ⟨Z, ρ, S, p⟩
end
/-! .. d.get(k), d.get(k, x) -/
def get1 (dfl : D) (a b : Va) (ρ : Rho) : M Rs := match ctOf ρ a, rdV ρ b with
  | some c, some k => match dGet c k with
    | some o => .ok (.pu (o.getD dfl)) ρ
    | none => .st
  | _, _ => .st
def get2 (dfl a b : Va) (ρ : Rho) : M Rs := match dfl with
  | .pu d => get1 d a b ρ
  | _ => .st
def kDic (a : Va) (ρ : Rho) (m : M Rs) : M Rs := if vaDic ρ a = true then m else .st
def oGet1 (oa ob : O Va) : O Rs := fun ρ => (oa ρ).bind fun a ρ1 => kDic a ρ1 ((ob ρ1).bind fun b ρ2 => get1 .none a b ρ2)
def oGet2 (oa ob : O Va) (oc : O D) : O Rs := fun ρ => (oa ρ).bind fun a ρ1 => kDic a ρ1 ((ob ρ1).bind fun b ρ2 => (oc ρ2).bind fun c ρ3 => get1 c a b ρ3)
theorem isDic_at {K : PySem.W.Frag} {G : Gm} {Z : Hp} {ρ : Rho} {σ : St} {H : Hp} {v : V} {x : Va} (S : Sim K G Z ρ σ H) {ρ' : Rho} {H' : Hp} (r : VaR K Z ρ' σ H' v x) (h : vaDic ρ x = true) : ∃ ad, v = .ref ad ∧ IsD H ad := by
  cases x with
  | pu d => cases h
  | rf i =>
    have h : isDic ρ[i]? = true := h
    have r : σ[i]? = some (some v) := r
    unfold isDic at h
    split at h
    · rename_i p kvs hr
      obtain ⟨ad, o, q, ho, rc, _⟩ := S.ow i p _ hr
      rw [q] at r
      cases r
      cases o with
      | dK vs => exact ⟨ad, rfl, .inl ⟨vs, .of ho⟩⟩
      | _ => exact rc.elim
    · rename_i p kvs hr
      obtain ⟨ad, o, q, ho, rc, _⟩ := S.ow i p _ hr
      rw [q] at r
      cases r
      cases o with
      | dT vs => exact ⟨ad, rfl, .inr ⟨vs, .of ho⟩⟩
      | _ => exact rc.elim
    · cases h
theorem pu_rp {K : PySem.W.Frag} {Z H : Hp} {ρ : Rho} {σ : St} {v : V} {x : Va} {d : D} {G : Gm} (S : Sim K G Z ρ σ H) (r : VaR K Z ρ σ H v x) (h : rdV ρ x = some d) {c : Ct} {o : Option D} (hd : dGet c d = some o) : Rp K Z v d :=
  (S.rdb r h).keptD fun ds e => by subst e; cases c <;> cases hd
section
variable {X : Cx} {G : Gm} {B : Wish} {oa ob : O Va}
theorem get1_run {σ : St} {Z H : Hp} {ρ : Rho} {x y : V} {a b : Va} {Q : VK} {dfl : D} {dv : V} (S : Sim X.K G Z ρ σ H) (r1 : VaR X.K Z ρ σ H x a) (r2 : VaR X.K Z ρ σ H y b) (rd : Rp X.K Z dv dfl) (p : Post X.K G B (RsR X.K G) σ Z (get1 dfl a b ρ) Q) : ∃ ad o, x = .ref ad ∧ DGet H ad y o ∧ Q (o.getD dv) H := by
  unfold get1 at p
  split at p
  · rename_i c kd hc hk
    split at p
    · rename_i o hd
      obtain ⟨ad, ob, rfl, ho, rc⟩ := ctOf_at S r1 hc
      obtain ⟨xv, g, q⟩ := dGet_v ho S.zh rc (pu_rp S r2 hk hd) hd
      refine ⟨ad, xv, rfl, g, ?_⟩
      rcases q with ⟨rfl, rfl⟩ | ⟨d', v, rfl, rfl, rv⟩
      · exact p.fin S (.refl S.zh) rd
      · exact p.fin S (.refl S.zh) rv
    · exact p.elim
  · exact p.elim
end
end Ow
namespace Ow
open PySem L2
/-! ### a text so many times -/
def repT (x : Str) (n : Int) : Str := Txt.mul x n
abbrev rMulS : R2 := fun x y H Q => ∃ a n, x = V.str a ∧ y = V.int n ∧ MulOk a n ∧ Q (V.str (Txt.mul a n)) H
theorem op_mulS {X : Cx} : OpR X (binaryOp .Mult) rMulS := by
  intro pins s σ H x y v u Q I rx ry h
  obtain ⟨i, j, rfl, rfl, hz, q⟩ := h
  obtain ⟨t, rfl⟩ := rx
  obtain ⟨t', rfl⟩ := ry
  exact SB.mul hz (fun t' tk => ⟨.str (Txt.mul i j), H, I.tok _, ⟨_, rfl⟩, q⟩)
def mulSok (a : Str) (n : Int) : Bool := decide (n.natAbs < 1000000 ∧ a.length * n.toNat ≤ 16000000)
theorem mulSok_c {a : Str} {n : Int} (h : mulSok a n = true) : MulOk a n := by
  unfold mulSok at h
  obtain ⟨h1, h3⟩ := of_decide_eq_true h
  refine ⟨?_, fun h4 _ => ?_, fun _ _ => ?_⟩
  · rw [Bool.or_eq_false_iff]
    exact ⟨decide_eq_false (by omega), decide_eq_false (by omega)⟩
  · intro h5
    have h6 : (a.length : Int) ≤ (2 ^ 63 - 1) / n := by
      rw [Int.le_ediv_iff_mul_le (by omega)]
      have h7 : (a.length : Int) * n = ((a.length * n.toNat : Nat) : Int) := by
        rw [Int.natCast_mul, Int.toNat_of_nonneg (by omega)]
      rw [h7]
      omega
    omega
  · unfold Builtin.Str.tooLong
    exact decide_eq_false (Nat.not_lt.mpr (lim_le h3))
def fMulX : D → D → Option Rs
  | .str a, .int n => if mulSok a n = true then some (.pu (.str (repT a n))) else none
  | a, b => fMul a b
theorem binS_mulX {K : PySem.W.Frag} : BinS K (fun x y H Q => rMulS x y H Q ∨ rMulAll x y H Q) fMulX := by
  intro x y dx dy R Z H Q e rx ry hf k
  unfold fMulX at hf
  split at hf
  · split at hf
    · cases hf
      exact .inl ⟨_, _, rx.str, ry.int, mulSok_c ‹_›, k _ Z H (.refl e) (.str _)⟩
    · cases hf
  · exact .inr (binS_mul x y _ _ R Z H Q e rx ry hf k)
/-! ### int(x), also of a text -/
def fIntX : List D → Option Rs
  | [.str a] => if a.length ≤ 640 then (PySem.intText? a).map fun n => .pu (.int n) else none
  | ds => fInt1 ds
theorem callS_intX {K : PySem.W.Frag} {r : List V → Hp → VK → Prop} (h : CallS K r fInt1) : CallS K (fun xs H Q => (∃ a n, xs = [.str a] ∧ PySem.intText? a = some n ∧ a.length ≤ 640 ∧ Q (.int n) H) ∨ r xs H Q) fIntX := by
  intro vs ds R Z H Q e rv hf k
  unfold fIntX at hf
  split at hf
  · split at hf
    · rename_i a hl
      obtain ⟨v, rfl, r1⟩ := Paired.one rv
      rw [r1.str]
      cases q : PySem.intText? a with
      | none => rw [q] at hf; cases hf
      | some n =>
        rw [q] at hf
        cases hf
        exact .inl ⟨_, _, rfl, q, hl, k _ Z H (.refl e) (.int _)⟩
    · cases hf
  · exact .inr (h vs _ R Z H Q e rv hf k)
/-! ### isinstance, one built-in class -/
def tyName : D → Option String
  | .none => some "NoneType"
  | .bool _ => some "bool"
  | .int _ => some "int"
  | .str _ => some "str"
  | .list _ => some "list"
  | .tuple _ => some "tuple"
  | .dict [(.none, .list _)] => some "list"
  | .dict [(.bool true, .tuple _)] => some "tuple"
  | _ => none
theorem tyName_v {K : PySem.W.Frag} {Z H : Hp} {v : V} {d : D} {n : String} (h : tyName d = some n) (r : Rdb K Z H v d) (e : Same Z H) : TyX K H v (.type n) := by
  unfold tyName at h
  split at h
  · cases h; rcases r with r | ⟨_, _, _, _, q, _⟩
    · cases r; exact .base .non
    · cases q
  · cases h; rw [r.bl]; exact .base (.bl _)
  · cases h; rw [r.int]; exact .base (.int _)
  · cases h; rw [r.str]; exact .base (.str _)
  · cases h; obtain ⟨a, vs, rfl, ha, _⟩ := r.list e; exact .base (.lst ha)
  · cases h; obtain ⟨a, vs, rfl, ha, _⟩ := r.tup e; exact .base (.tup ha)
  · cases h
    obtain ⟨a, vs, rfl, ha, _⟩ := r.scr e
    rcases ha with (ha | ⟨o, ha⟩) | ⟨o, _, _, ho, hc, _⟩
    · exact .base (.lst ha)
    · exact .base (.frz ha)
    · exact .kList ho hc
  · cases h
    obtain ⟨a, vs, rfl, ha, _⟩ := r.kon e
    rcases ha with (ha | ⟨o, ha⟩) | ⟨o, _, _, ho, hc, _⟩
    · exact .base (.tup ha)
    · exact .fTuple ha
    · exact .kTuple ho hc
  · cases h
/-- a built-in class, its name among the program's words -/
def isi1 (T : String) (a : Va) (ρ : Rho) : M Rs := match rdV ρ a with
  | some d => match tyName d with
    | some n => match kitB n T with
      | some b => .ok (.pu (.bool b)) ρ
      | none => .st
    | none => .st
  | none => .st
def oIsi (T : String) (o : O Va) : O Rs := fun ρ => (o ρ).bind (isi1 T)
section
variable {X : Cx} {G : Gm} {B : Wish} {e : Expr} {p p2 pos : Pos} {oa : O Va} {T : String} {x : Str}
theorem rd_isi (hg : Gl X "isinstance") (hm : X.mg "isinstance" = none) (ha : ED X G B e oa) (hgT : Gl X x) (hmT : X.mg x = none) (hvT : bootBuiltins x = some (.type T)) (hnT : x ≠ "__name__" := by decide) (hdT : (x == ("__debug__" : Str)) = false := by decide)
    (he : starEach [e, .Name x p2] X.env = (false, eval e X.env) :: starEach [.Name x p2] X.env := by rfl) (he2 : starEach [.Name x p2] X.env = (false, eval (.Name x p2) X.env) :: starEach [] X.env := by rfl)
    (hpl : (backTo pos (starEach [.Name x p2] X.env)).any (·.1) = false := by rfl) (hv : bootBuiltins "isinstance" = some (.builtin "isinstance") := by rfl) : RD X G B (.Call (.Name "isinstance" p) [e, .Name x p2] [] pos) (oIsi T oa) :=
  pe_imp (pe_callB call_isi hg hm hv (pa_cons ha (pa_cons (pe_bltn (v := .ty T) hgT hmT hvT rfl hnT hdT) pa_nil he2) he) (by decide) (by decide) he hpl) fun σ H Q w => run_imp w fun v va ρ1 Z1 H1 S1 r1 p1 => by
    unfold isi1 at p1
    split at p1
    · rename_i d hd
      split at p1
      · rename_i n hn
        split at p1
        · rename_i b hb
          exact ⟨v, .ty T, .type n, .type T, b, rfl, .ty T, tyName_v hn (S1.rdb r1 hd) S1.zh, kit_ty hb, p1.fin S1 (.refl S1.zh) (.bl _)⟩
        · exact p1.elim
      · exact p1.elim
    · exact p1.elim
/-! ### names of the module -/
def Kn (K : PySem.W.Frag) (mg : Str → Option Value) (x : Str) (d : D) : Prop := ∃ v u, mg x = some u ∧ RelV v u ∧ ∀ Z, Rp K Z v d
theorem kn_str {K : PySem.W.Frag} {mg : Str → Option Value} {x z : Str} (h : ∃ t, mg x = some (.str z t)) : Kn K mg x (.str z) := by
  obtain ⟨t, h⟩ := h
  exact ⟨.str z, _, h, ⟨t, rfl⟩, fun Z => .str z⟩
theorem kn_int {K : PySem.W.Frag} {mg : Str → Option Value} {x : Str} {z : Int} (h : ∃ t, mg x = some (.int z t)) : Kn K mg x (.int z) := by
  obtain ⟨t, h⟩ := h
  exact ⟨.int z, _, h, ⟨t, rfl⟩, fun Z => .int z⟩
theorem kn_tup {K : PySem.W.Frag} {mg : Str → Option Value} {a : Addr} {vs : List V} {ds : List D} (h : mg x = some (.ref a)) (hs : ∀ H, SqT K H a vs) (hd : ∀ Z, RpAll K Z vs ds) : Kn K mg x (kon ds) := ⟨.ref a, _, h, rfl, fun Z => .kon (hs Z) (hd Z)⟩
theorem pd_kn {d : D} (hg : Gl X x) (h : Kn X.K X.mg x d) (hd : (x == ("__debug__" : Str)) = false := by decide) : PD X G B (.Name x pos) (oC d) := by
  obtain ⟨v, u, hm, r, hz⟩ := h
  exact pd_const (pe_glob hg hm r hd) hz
end
section
variable {X : Cx} {G : Gm} {B : Wish} {a b : Expr} {pos : Pos} {oa ob : O Va}
theorem rd_mulX (ha : ED X G B a oa) (hb : ED X G B b ob) : RD X G B (.BinOp a .Mult b pos) (oBin fMulX oa ob) := rd_bin (op_mulS.or op_mulAll) binS_mulX ha hb
end
end Ow
namespace Ow
open PySem PySem.Spec PyProof.Rows L2
/-! ### short names for the built-ins -/
section
variable {X : Cx} {G : Gm} {B : Wish} {p pos apos npos cpos : Pos} {e o : Expr} {es : List Expr} {oas : O (List Va)} {oo : O Va} {x : Str}
theorem zb_list (hg : Gl X "list") (hm : X.mg "list" = none) (ha : AD X G B (e :: es) oas) (he : starEach (e :: es) X.env = (false, eval e X.env) :: starEach es X.env := by rfl) (hpl : (backTo pos (starEach es X.env)).any (·.1) = false := by rfl) : RD X G B (.Call (.Name "list" p) (e :: es) [] pos) (oCB fList oas) :=
  rd_callTy call_list_of callS_list hg hm boot_list ha (by decide) (by decide) he hpl
theorem zb_tuple (hg : Gl X "tuple") (hm : X.mg "tuple" = none) (ha : AD X G B (e :: es) oas) (he : starEach (e :: es) X.env = (false, eval e X.env) :: starEach es X.env := by rfl) (hpl : (backTo pos (starEach es X.env)).any (·.1) = false := by rfl) : RD X G B (.Call (.Name "tuple" p) (e :: es) [] pos) (oCB fTuple oas) :=
  rd_callTy call_tuple_of callS_tuple hg hm boot_tuple ha (by decide) (by decide) he hpl
theorem zb_int (hg : Gl X "int") (hm : X.mg "int" = none) (ha : AD X G B (e :: es) oas) (he : starEach (e :: es) X.env = (false, eval e X.env) :: starEach es X.env := by rfl) (hpl : (backTo pos (starEach es X.env)).any (·.1) = false := by rfl) : RD X G B (.Call (.Name "int" p) (e :: es) [] pos) (oCB fIntX oas) :=
  rd_callTy (CallR.or call_int_str call_int1) (callS_intX callS_int) hg hm boot_int ha (by decide) (by decide) he hpl
theorem zb_str (hg : Gl X "str") (hm : X.mg "str" = none) (ha : AD X G B (e :: es) oas) (he : starEach (e :: es) X.env = (false, eval e X.env) :: starEach es X.env := by rfl) (hpl : (backTo pos (starEach es X.env)).any (·.1) = false := by rfl) : RD X G B (.Call (.Name "str" p) (e :: es) [] pos) (oCB fStr1 oas) :=
  rd_callTy call_str_int callS_str hg hm boot_str ha (by decide) (by decide) he hpl
theorem zb_abs (hg : Gl X "abs") (hm : X.mg "abs" = none) (ha : AD X G B (e :: es) oas) (he : starEach (e :: es) X.env = (false, eval e X.env) :: starEach es X.env := by rfl) (hpl : (backTo pos (starEach es X.env)).any (·.1) = false := by rfl) : RD X G B (.Call (.Name "abs" p) (e :: es) [] pos) (oCB fAbs oas) :=
  rd_callB call_abs callS_abs hg hm boot_abs ha (by decide) (by decide) he hpl
theorem zb_max2 (hc : X.calm = true) (hg : Gl X "max") (hm : X.mg "max" = none) (ha : AD X G B (e :: es) oas) (he : starEach (e :: es) X.env = (false, eval e X.env) :: starEach es X.env := by rfl) (hpl : (backTo pos (starEach es X.env)).any (·.1) = false := by rfl) : RD X G B (.Call (.Name "max" p) (e :: es) [] pos) (oCB fMax2 oas) :=
  rd_callB (call_max2 hc) callS_max2 hg hm boot_max ha (by decide) (by decide) he hpl
theorem zb_min2 (hc : X.calm = true) (hg : Gl X "min") (hm : X.mg "min" = none) (ha : AD X G B (e :: es) oas) (he : starEach (e :: es) X.env = (false, eval e X.env) :: starEach es X.env := by rfl) (hpl : (backTo pos (starEach es X.env)).any (·.1) = false := by rfl) : RD X G B (.Call (.Name "min" p) (e :: es) [] pos) (oCB fMin2 oas) :=
  rd_callB (call_min2 hc) callS_min2 hg hm boot_min ha (by decide) (by decide) he hpl
theorem zb_max1 (hc : X.calm = true) (hg : Gl X "max") (hm : X.mg "max" = none) (ha : AD X G B (e :: es) oas) (he : starEach (e :: es) X.env = (false, eval e X.env) :: starEach es X.env := by rfl) (hpl : (backTo pos (starEach es X.env)).any (·.1) = false := by rfl) : RD X G B (.Call (.Name "max" p) (e :: es) [] pos) (oCB fMax1 oas) :=
  rd_callB (cr_max hc) callS_max1 hg hm boot_max ha (by decide) (by decide) he hpl
theorem zb_min1 (hc : X.calm = true) (hg : Gl X "min") (hm : X.mg "min" = none) (ha : AD X G B (e :: es) oas) (he : starEach (e :: es) X.env = (false, eval e X.env) :: starEach es X.env := by rfl) (hpl : (backTo pos (starEach es X.env)).any (·.1) = false := by rfl) : RD X G B (.Call (.Name "min" p) (e :: es) [] pos) (oCB fMin1 oas) :=
  rd_callB (cr_min hc) callS_min1 hg hm boot_min ha (by decide) (by decide) he hpl
theorem zb_sum (hc : X.calm = true) (hg : Gl X "sum") (hm : X.mg "sum" = none) (ha : AD X G B (e :: es) oas) (he : starEach (e :: es) X.env = (false, eval e X.env) :: starEach es X.env := by rfl) (hpl : (backTo pos (starEach es X.env)).any (·.1) = false := by rfl) : RD X G B (.Call (.Name "sum" p) (e :: es) [] pos) (oCB fSum oas) :=
  rd_callB (cr_sum hc) callS_sum hg hm boot_sum ha (by decide) (by decide) he hpl
theorem zb_all (hc : X.calm = true) (hg : Gl X "all") (hm : X.mg "all" = none) (ha : AD X G B (e :: es) oas) (he : starEach (e :: es) X.env = (false, eval e X.env) :: starEach es X.env := by rfl) (hpl : (backTo pos (starEach es X.env)).any (·.1) = false := by rfl) : RD X G B (.Call (.Name "all" p) (e :: es) [] pos) (oCB fAll oas) :=
  rd_callB (cr_all hc) callS_all hg hm boot_all ha (by decide) (by decide) he hpl
theorem zb_any (hc : X.calm = true) (hg : Gl X "any") (hm : X.mg "any" = none) (ha : AD X G B (e :: es) oas) (he : starEach (e :: es) X.env = (false, eval e X.env) :: starEach es X.env := by rfl) (hpl : (backTo pos (starEach es X.env)).any (·.1) = false := by rfl) : RD X G B (.Call (.Name "any" p) (e :: es) [] pos) (oCB fAny oas) :=
  rd_callB (cr_any hc) callS_any hg hm boot_any ha (by decide) (by decide) he hpl
theorem zb_sorted (hg : Gl X "sorted") (hm : X.mg "sorted" = none) (ha : AD X G B (e :: es) oas) (he : starEach (e :: es) X.env = (false, eval e X.env) :: starEach es X.env := by rfl) (hpl : (backTo pos (starEach es X.env)).any (·.1) = false := by rfl) : RD X G B (.Call (.Name "sorted" p) (e :: es) [] pos) (oCB fSorted oas) :=
  rd_callB cr_sortedI callS_sorted hg hm boot_sorted ha (by decide) (by decide) he hpl
theorem zm_join (ho : ED X G B o oo) (ha : AD X G B (e :: es) oas)
    (hbase : attributeBase o "join" X.env (eval o X.env) = eval o X.env := by rfl)
    (hfew : ((backTo cpos (starEach (e :: es) X.env)).all (fun x => !x.1) && (backToKw cpos (keywordEach [] X.env)).all (fun x => x.1.isSome)
      && decide ((e :: es).length + ([] : List Keyword).length + (if ([] : List Keyword).isEmpty then 0 else 1) < 30)) = true := by rfl)
    (hline : (apos.endLine == cpos.line) = true := by rfl) (hs : starEach (e :: es) X.env = (false, eval e X.env) :: starEach es X.env := by rfl) (hplain : (backTo cpos (starEach es X.env)).any (·.1) = false := by rfl) :
    RD X G B (.Call (.Attribute o "join" apos) (e :: es) [] cpos) (oBM "str" fJoin oo oas) :=
  rd_bm F.plainAttrs_str F.slot_str_join F.type_str_join mt_join metS_join ho ha hbase hfew hline hs hplain
theorem zm_split (ho : ED X G B o oo) (ha : AD X G B (e :: es) oas)
    (hbase : attributeBase o "split" X.env (eval o X.env) = eval o X.env := by rfl)
    (hfew : ((backTo cpos (starEach (e :: es) X.env)).all (fun x => !x.1) && (backToKw cpos (keywordEach [] X.env)).all (fun x => x.1.isSome)
      && decide ((e :: es).length + ([] : List Keyword).length + (if ([] : List Keyword).isEmpty then 0 else 1) < 30)) = true := by rfl)
    (hline : (apos.endLine == cpos.line) = true := by rfl) (hs : starEach (e :: es) X.env = (false, eval e X.env) :: starEach es X.env := by rfl) (hplain : (backTo cpos (starEach es X.env)).any (·.1) = false := by rfl) :
    RD X G B (.Call (.Attribute o "split" apos) (e :: es) [] cpos) (oBM "str" fSplit oo oas) :=
  rd_bm F.plainAttrs_str F.slot_str_split F.type_str_split mt_split metS_split ho ha hbase hfew hline hs hplain
theorem zl_append (i : Nat) {oas : O (List D)} (ha : QD X G B (e :: es) oas)
    (hN : X.N[i]? = some x := by rfl) (hv : Vis X.env.scope x := by first | exact Or.inl rfl | exact Or.inr (Or.inl rfl) | exact Or.inr (Or.inr rfl)) (hd : (x == ("__debug__" : Str)) = false := by decide)
    (hcd : (x == ("__classdict__" : Str)) = false := by decide)
    (hbase : attributeBase (.Name x npos) "append" X.env (eval (.Name x npos) X.env) = eval (.Name x npos) X.env := by rfl)
    (hfew : ((backTo cpos (starEach (e :: es) X.env)).all (fun x => !x.1) && (backToKw cpos (keywordEach [] X.env)).all (fun x => x.1.isSome)
      && decide ((e :: es).length + ([] : List Keyword).length + (if ([] : List Keyword).isEmpty then 0 else 1) < 30)) = true := by rfl)
    (hline : (apos.endLine == cpos.line) = true := by rfl) (hs : starEach (e :: es) X.env = (false, eval e X.env) :: starEach es X.env := by rfl) (hplain : (backTo cpos (starEach es X.env)).any (·.1) = false := by rfl) :
    PD X G B (.Call (.Attribute (.Name x npos) "append" apos) (e :: es) [] cpos) (oMutK i fAppend oas) :=
  pd_mutK i F.slot_list_append F.type_list_append mt_append mutK_append ha hN hv hd hcd hbase hfew hline hs hplain
theorem zl_insert (i : Nat) {oas : O (List D)} (ha : QD X G B (e :: es) oas)
    (hN : X.N[i]? = some x := by rfl) (hv : Vis X.env.scope x := by first | exact Or.inl rfl | exact Or.inr (Or.inl rfl) | exact Or.inr (Or.inr rfl)) (hd : (x == ("__debug__" : Str)) = false := by decide)
    (hcd : (x == ("__classdict__" : Str)) = false := by decide)
    (hbase : attributeBase (.Name x npos) "insert" X.env (eval (.Name x npos) X.env) = eval (.Name x npos) X.env := by rfl)
    (hfew : ((backTo cpos (starEach (e :: es) X.env)).all (fun x => !x.1) && (backToKw cpos (keywordEach [] X.env)).all (fun x => x.1.isSome)
      && decide ((e :: es).length + ([] : List Keyword).length + (if ([] : List Keyword).isEmpty then 0 else 1) < 30)) = true := by rfl)
    (hline : (apos.endLine == cpos.line) = true := by rfl) (hs : starEach (e :: es) X.env = (false, eval e X.env) :: starEach es X.env := by rfl) (hplain : (backTo cpos (starEach es X.env)).any (·.1) = false := by rfl) :
    PD X G B (.Call (.Attribute (.Name x npos) "insert" apos) (e :: es) [] cpos) (oMutK i fInsert oas) :=
  pd_mutK i F.slot_list_insert F.type_list_insert mt_insert mutK_insert ha hN hv hd hcd hbase hfew hline hs hplain
theorem zl_extend (i : Nat) (ha : AD X G B (e :: es) oas)
    (hN : X.N[i]? = some x := by rfl) (hv : Vis X.env.scope x := by first | exact Or.inl rfl | exact Or.inr (Or.inl rfl) | exact Or.inr (Or.inr rfl)) (hd : (x == ("__debug__" : Str)) = false := by decide)
    (hcd : (x == ("__classdict__" : Str)) = false := by decide)
    (hbase : attributeBase (.Name x npos) "extend" X.env (eval (.Name x npos) X.env) = eval (.Name x npos) X.env := by rfl)
    (hfew : ((backTo cpos (starEach (e :: es) X.env)).all (fun x => !x.1) && (backToKw cpos (keywordEach [] X.env)).all (fun x => x.1.isSome)
      && decide ((e :: es).length + ([] : List Keyword).length + (if ([] : List Keyword).isEmpty then 0 else 1) < 30)) = true := by rfl)
    (hline : (apos.endLine == cpos.line) = true := by rfl) (hs : starEach (e :: es) X.env = (false, eval e X.env) :: starEach es X.env := by rfl) (hplain : (backTo cpos (starEach es X.env)).any (·.1) = false := by rfl) :
    PD X G B (.Call (.Attribute (.Name x npos) "extend" apos) (e :: es) [] cpos) (oMut i fExtend oas) :=
  pd_mut i F.slot_list_extend F.type_list_extend mt_extend mutS_extend ha hN hv hd hcd hbase hfew hline hs hplain
theorem zl_popAt (i : Nat) (ha : AD X G B (e :: es) oas)
    (hN : X.N[i]? = some x := by rfl) (hv : Vis X.env.scope x := by first | exact Or.inl rfl | exact Or.inr (Or.inl rfl) | exact Or.inr (Or.inr rfl)) (hd : (x == ("__debug__" : Str)) = false := by decide)
    (hcd : (x == ("__classdict__" : Str)) = false := by decide)
    (hbase : attributeBase (.Name x npos) "pop" X.env (eval (.Name x npos) X.env) = eval (.Name x npos) X.env := by rfl)
    (hfew : ((backTo cpos (starEach (e :: es) X.env)).all (fun x => !x.1) && (backToKw cpos (keywordEach [] X.env)).all (fun x => x.1.isSome)
      && decide ((e :: es).length + ([] : List Keyword).length + (if ([] : List Keyword).isEmpty then 0 else 1) < 30)) = true := by rfl)
    (hline : (apos.endLine == cpos.line) = true := by rfl) (hs : starEach (e :: es) X.env = (false, eval e X.env) :: starEach es X.env := by rfl) (hplain : (backTo cpos (starEach es X.env)).any (·.1) = false := by rfl) :
    PD X G B (.Call (.Attribute (.Name x npos) "pop" apos) (e :: es) [] cpos) (oMut i fPopAt oas) :=
  pd_mut i F.slot_list_pop F.type_list_pop mt_popAt mutS_popAt ha hN hv hd hcd hbase hfew hline hs hplain
theorem zl_pop (i : Nat)
    (hN : X.N[i]? = some x := by rfl) (hv : Vis X.env.scope x := by first | exact Or.inl rfl | exact Or.inr (Or.inl rfl) | exact Or.inr (Or.inr rfl)) (hd : (x == ("__debug__" : Str)) = false := by decide)
    (hcd : (x == ("__classdict__" : Str)) = false := by decide)
    (hbase : attributeBase (.Name x npos) "pop" X.env (eval (.Name x npos) X.env) = eval (.Name x npos) X.env := by rfl) (hline : (apos.endLine == cpos.line) = true := by rfl) :
    PD X G B (.Call (.Attribute (.Name x npos) "pop" apos) [] [] cpos) (oMut i fPop oNil) :=
  pd_mut0 i F.slot_list_pop F.type_list_pop mt_pop mutS_pop hN hv hd hcd hbase hline
end
/-! ### defs by their names -/
structure Cal (P : Program) (w : World) (K : PySem.W.Frag) (mg : Str → Option Value) (base : Heap) (k : Nat) (x : Str) (ps : List Str) (g : Fn) : Prop where
  ex : ∃ f fd, FnOk P w K mg base CX0 k f fd ps (spD K ps.length g) ∧ mg x = some (.ref f) ∧ PySem.W.keepIn K (.ref f) = true ∧ Binds K fd ps []
section
variable {X : Cx} {G : Gm} {B : Wish} {k kk : Nat} {ps : List Str} {g : Fn} {x : Str} {p pos : Pos} {e : Expr} {es : List Expr} {oas : O (List Va)}
theorem rd_cal (c : Cal X.prog X.w X.K X.mg X.base k x ps g) (hr : Room kk X.A) (hk : k ≤ kk) (hg : Gl X x) (ha : AD X G noB (e :: es) oas) (hl : Many ps.length oas) (hdb : (x == ("__debug__" : Str)) = false := by decide)
    (he : starEach (e :: es) X.env = (false, eval e X.env) :: starEach es X.env := by rfl) (hpl : (backTo pos (starEach es X.env)).any (·.1) = false := by rfl) : RD X G noB (.Call (.Name x p) (e :: es) [] pos) (oCall g oas) := by
  obtain ⟨f, fd, F, hm, kp, b⟩ := c.ex
  exact rd_call F (hr.mono hk) hg hm kp b ha hl hdb he hpl
theorem rd_cal0 (c : Cal X.prog X.w X.K X.mg X.base k x [] g) (hr : Room kk X.A) (hk : k ≤ kk) (hg : Gl X x) (hdb : (x == ("__debug__" : Str)) = false := by decide) : RD X G noB (.Call (.Name x p) [] [] pos) (oCall g oNil) := by
  obtain ⟨f, fd, F, hm, kp, b⟩ := c.ex
  exact rd_call0 F (hr.mono hk) hg hm kp b hdb
end
end Ow
namespace Ow
open PySem PySem.Spec PyProof.Rows L2
/-! ### the module's constants, read in the written part -/
mutual
def konB (K : PySem.W.Frag) : Nat → D → Value → Bool
  | _, .none, .none => true
  | _, .bool b, .bool c => b == c
  | _, .int i, .int j _ => decide (i = j)
  | _, .str x, .str y _ => decide (x = y)
  | n + 1, .dict [(.bool true, .tuple ds)], .ref a => match K.lookup a with
    | some ⟨.type c, _, .seq its _, _⟩ => decide (c = "tuple") && (decide (its.size ≤ sizeLine) && konL K n ds its.toList)
    | _ => false
  | _, _, _ => false
def konL (K : PySem.W.Frag) : Nat → List D → List Value → Bool
  | _, [], [] => true
  | n + 1, d :: ds, u :: us => konB K n d u && konL K n ds us
  | _, _, _ => false
end
theorem rpAll_of {K : PySem.W.Frag} {vs : List V} {ds : List D} (h : Paired (fun v d => ∀ Z, Rp K Z v d) vs ds) (Z : Hp) : RpAll K Z vs ds := by
  induction h with
  | nil => exact .nil
  | cons h1 h2 ih => exact .cons (h1 Z) ih
theorem kon_ok {K : PySem.W.Frag} : ∀ n : Nat, (∀ (d : D) (u : Value), konB K n d u = true → ∃ v, RelV v u ∧ ∀ Z, Rp K Z v d) ∧ (∀ (ds : List D) (us : List Value), konL K n ds us = true → ∃ vs, Vals vs us ∧ Paired (fun v d => ∀ Z, Rp K Z v d) vs ds) := by
  intro n
  induction n with
  | zero =>
    refine ⟨fun d u h => ?_, fun ds us h => ?_⟩
    · unfold konB at h
      split at h
      · exact ⟨.non, rfl, fun Z => .non⟩
      · rw [eq_of_beq h]; exact ⟨.bl _, rfl, fun Z => .bl _⟩
      · rw [of_decide_eq_true h]; exact ⟨.int _, ⟨_, rfl⟩, fun Z => .int _⟩
      · rw [of_decide_eq_true h]; exact ⟨.str _, ⟨_, rfl⟩, fun Z => .str _⟩
      · exact absurd ‹0 = Nat.succ _› (Nat.succ_ne_zero _).symm
      · cases h
    · unfold konL at h
      split at h
      · exact ⟨[], .nil, .nil⟩
      · exact absurd ‹0 = Nat.succ _› (Nat.succ_ne_zero _).symm
      · cases h
  | succ n ih =>
    refine ⟨fun d u h => ?_, fun ds us h => ?_⟩
    · unfold konB at h
      split at h
      · exact ⟨.non, rfl, fun Z => .non⟩
      · rw [eq_of_beq h]; exact ⟨.bl _, rfl, fun Z => .bl _⟩
      · rw [of_decide_eq_true h]; exact ⟨.int _, ⟨_, rfl⟩, fun Z => .int _⟩
      · rw [of_decide_eq_true h]; exact ⟨.str _, ⟨_, rfl⟩, fun Z => .str _⟩
      · rename_i m ds a hn
        cases hn
        split at h
        · rename_i c _ its z _ q
          obtain ⟨h1, h2⟩ := He.ba h
          obtain ⟨h3, h4⟩ := He.ba h2
          obtain ⟨vs, hv, hd⟩ := ih.2 _ _ h4
          exact ⟨.ref a, rfl, fun Z => .kon (.inr ⟨_, its, z, q, congrArg Value.type (of_decide_eq_true h1), rfl, of_decide_eq_true h3, hv⟩) (rpAll_of hd Z)⟩
        · cases h
      · cases h
    · unfold konL at h
      split at h
      · exact ⟨[], .nil, .nil⟩
      · rename_i m d ds u us hn
        cases hn
        obtain ⟨h1, h2⟩ := He.ba h
        obtain ⟨v, rv, rd⟩ := ih.1 _ _ h1
        obtain ⟨vs, rvs, rds⟩ := ih.2 _ _ h2
        exact ⟨v :: vs, .cons rv rvs, .cons rd rds⟩
      · cases h
def konG (K : PySem.W.Frag) (x : Str) (d : D) : Bool := match PySem.W.nsIn K mainGlobals x with
  | some (some u) => konB K 1000 d u
  | _ => false
theorem konG_ok {K : PySem.W.Frag} {h : Heap} {mg : Str → Option Value} (X : K.In h) (G : h.Ns mainGlobals mg) {x : Str} {d : D} (c : konG K x d = true) : Kn K mg x d := by
  unfold konG at c
  split at c
  · rename_i u e
    obtain ⟨v, r, z⟩ := (kon_ok 1000).1 _ _ c
    exact ⟨v, u, PySem.W.mg_of X G e, r, z⟩
  · cases c
/-! ### the head's hook, and more facts -/
open He
def obsQ (fa : List Fa) (fn : List DefD) (ex : PySem.W.Frag → Bool) (K : PySem.W.Frag) : AlD := (((fa.all fun f => f.ok K) && fn.all fun d => d.ok K) && ex K, fn.map fun d => fnW K d.at_)
def obsQG (n : Nat) (fa : List Fa) (fn : List DefD) (ex : PySem.W.Frag → Bool) (g : Addr → Option Obj) : AlD := obsQ fa fn ex (frG g (asD g n))
def hookQ (n : Nat) (fa : List Fa) (fn : List DefD) (ex : PySem.W.Frag → Bool) : PySem.W.Hook where
  α := AlD
  obs := fun s => obsQG n fa fn ex s.heap.get?
  val := fun _ => He.valD fn
  says := fun _ h => ∃ K : PySem.W.Frag, K.In h ∧ SaysD fa fn K ∧ ex K = true
  of := fun _ _ e => ⟨_, frG_in, by
    have e1 : (((fa.all fun f => f.ok _) && fn.all fun d => d.ok _) && ex _) = true := congrArg (fun z : AlD => z.1) e
    have e2 := congrArg (fun z : AlD => z.2) e
    obtain ⟨e3, e4⟩ := ba e1
    exact ⟨Prod.ext e3 e2, e4⟩⟩
  keeps := fun _ _ _ ⟨K, hK, c⟩ k => ⟨K, PySem.W.Frag.In.keeps hK k, c⟩
theorem obsQG_eq {n : Nat} {fa : List Fa} {fn : List DefD} {ex : PySem.W.Frag → Bool} {g : Addr → Option Obj} {s : Shared} (h : ∀ a, g a = s.heap.get? a) : obsQG n fa fn ex g = (hookQ n fa fn ex).obs s := by
  have e : g = s.heap.get? := funext h
  rw [e] <;> rfl
/-! ### the end -/
section
variable {P : Program} {w : World} {K : PySem.W.Frag} {mg : Str → Option Value} {base : Heap} {k : Nat} {x qual : Str} {params : Arguments} {body : List Stmt} {scope : Scope} {f : Addr} {fd : FuncData} {ps : List Str} {g : Fn}
theorem Cal.of (ok : FnOk P w K mg base CX0 k f fd ps (spD K ps.length g)) (hm : mg x = some (.ref f)) (F : FunD K x qual params body scope [] [] f fd)
    (h : ∀ (kV doc pm : Value) (an : Option Addr) (cdv ct : Value) (us : List Value), us.length = ps.length → bindArgs (PySem.W.fnOf x qual params body scope .none kV doc pm an cdv ct) ⟨us, []⟩ = pure (ps.zip us)) : Cal P w K mg base k x ps g :=
  ⟨f, fd, ok, hm, F.kp, F.bindsN h⟩
theorem sp_law {outs : List Sl} {H : Hp} {a : Addr} {ns : List Int} (hg : ∃ outs, g [.pu (scr (ns.map PyData.int))] = .ret (.pu (.bool true)) outs) (hS : SqL K H a (ns.map V.int)) : spD K 1 g [.ref a] H (fun v _ => v = .bl true) (fun _ _ _ => False) := by
  obtain ⟨outs, hg⟩ := hg
  refine ⟨rfl, H, [.pu (scr (ns.map PyData.int))], .refl _, ⟨rfl, fun i e => ?_, fun i xss e => ?_, fun i k j e => ?_, fun i d e => ?_, fun i p c e => ?_, fun i j p q c d n e1 e2 => ?_⟩, ?_⟩
  · cases i with
    | zero => cases e
    | succ i => cases e
  · cases i with
    | zero => cases e
    | succ i => cases e
  · cases i with
    | zero => cases e
    | succ i => cases e
  · cases i with
    | zero => cases e; exact ⟨_, rfl, .frz hS (RpAll.ints ns)⟩
    | succ i => cases e
  · cases i with
    | zero => cases e
    | succ i => cases e
  · cases i with
    | zero => cases e1
    | succ i => cases e1
  · rw [hg]
    intro v Z' H' _ hr
    cases (show Rp K Z' v (.bool true) from hr)
    rfl
end
end Ow
namespace Ow
open PySem L2
/-! ### running the plain programs: rules for simp -/
section
variable (z : Sl) (ρ : Rho)
@[simp] theorem ap_pu (o : O D) : oPu o (z :: ρ) = (o (z :: ρ)).bind fun d ρ1 => .ok (.pu d) ρ1 := rfl
@[simp] theorem ap_res (o : O D) : oRes o (z :: ρ) = (o (z :: ρ)).bind fun d ρ1 => .ok (.pu d) ρ1 := rfl
@[simp] theorem ap_frz (o : O Rs) : oFrz o (z :: ρ) = (o (z :: ρ)).bind frz1 := rfl
@[simp] theorem ap_keep (o : O Va) : oKeep o (z :: ρ) = (o (z :: ρ)).bind keep1 := rfl
@[simp] theorem ap_c (d : D) : oC d (z :: ρ) = .ok d (z :: ρ) := rfl
theorem ap_var (i : Nat) : oVar i (z :: ρ) = match (z :: ρ)[i]? with | some (.pu d) => .ok (.pu d) (z :: ρ) | some (.ow _ _) => .ok (.rf i) (z :: ρ) | some (.al k _) => (match (z :: ρ)[k]? with | some (.ll (.li _)) => .ok (.rf i) (z :: ρ) | _ => .st) | _ => .st := rfl
@[simp] theorem ap_bin (f : D → D → Option Rs) (a b : O Va) : oBin f a b (z :: ρ) = (a (z :: ρ)).bind fun x ρ1 => (b ρ1).bind fun y ρ2 => bin1 f x y ρ2 := rfl
@[simp] theorem ap_un (f : D → Option Rs) (a : O Va) : oUn f a (z :: ρ) = (a (z :: ρ)).bind (un1 f) := rfl
@[simp] theorem ap_tst (o : O Rs) : oTst o (z :: ρ) = (o (z :: ρ)).bind tst1 := rfl
@[simp] theorem ap_tru (o : O Va) : oTru o (z :: ρ) = (o (z :: ρ)).bind tru1 := rfl
@[simp] theorem ap_and (a b : O Bool) : oAnd a b (z :: ρ) = (a (z :: ρ)).bind fun c ρ1 => if c = true then b ρ1 else .ok false ρ1 := rfl
@[simp] theorem ap_or (a b : O Bool) : oOr a b (z :: ρ) = (a (z :: ρ)).bind fun c ρ1 => if c = true then .ok true ρ1 else b ρ1 := rfl
@[simp] theorem ap_not (a : O Bool) : oNot a (z :: ρ) = (a (z :: ρ)).bind fun c ρ1 => .ok (!c) ρ1 := rfl
@[simp] theorem ap_bl (a : O Bool) : oBl a (z :: ρ) = (a (z :: ρ)).bind fun c ρ1 => .ok (.bool c) ρ1 := rfl
@[simp] theorem ap_if {α : Type} (c : O Bool) (a b : O α) : oIf c a b (z :: ρ) = (c (z :: ρ)).bind fun t ρ1 => if t = true then a ρ1 else b ρ1 := rfl
@[simp] theorem ap_andV (a b : O D) : oAndV a b (z :: ρ) = (a (z :: ρ)).bind fun d ρ1 => bl1 d fun c => if c = true then b ρ1 else .ok (.bool false) ρ1 := rfl
@[simp] theorem ap_orV (a b : O D) : oOrV a b (z :: ρ) = (a (z :: ρ)).bind fun d ρ1 => bl1 d fun c => if c = true then .ok (.bool true) ρ1 else b ρ1 := rfl
@[simp] theorem ap_notV (a : O D) : oNotV a (z :: ρ) = (a (z :: ρ)).bind fun d ρ1 => bl1 d fun c => .ok (.bool (!c)) ρ1 := rfl
@[simp] theorem ap_chain (f g : D → D → Option Rs) (oa ob oc : O Va) : oChain f g oa ob oc (z :: ρ) = (oa (z :: ρ)).bind fun a ρ1 => (ob ρ1).bind fun b ρ2 => (bin1 f a b ρ2).bind fun r ρ3 => (tst1 r ρ3).bind fun k ρ4 => if k = true then (oc ρ4).bind fun c ρ5 => bin1 g b c ρ5 else .ok (.pu (.bool false)) ρ4 := rfl
@[simp] theorem ap_nil {α : Type} : (oNil : O (List α)) (z :: ρ) = .ok [] (z :: ρ) := rfl
@[simp] theorem ap_cons {α : Type} (a : O α) (r : O (List α)) : oCons a r (z :: ρ) = (a (z :: ρ)).bind fun x ρ1 => (r ρ1).bind fun xs ρ2 => .ok (x :: xs) ρ2 := rfl
@[simp] theorem ap_tup (o : O (List D)) : oTup o (z :: ρ) = (o (z :: ρ)).bind fun ds ρ1 => if ds.length ≤ 16000000 then .ok (.tuple ds) ρ1 else .st := rfl
@[simp] theorem ap_lst (o : O (List D)) : oLst o (z :: ρ) = (o (z :: ρ)).bind fun ds ρ1 => if ds.length ≤ 16000000 then .ok (.nw (.li ds)) ρ1 else .st := rfl
@[simp] theorem ap_part (o : O D) : oPart o (z :: ρ) = (o (z :: ρ)).bind part1 := rfl
@[simp] theorem ap_noPart : oNoPart (z :: ρ) = .ok none (z :: ρ) := rfl
@[simp] theorem ap_sl (oa : O Va) (ol oh : O (Option Int)) : oSl oa ol oh (z :: ρ) = (oa (z :: ρ)).bind fun a ρ1 => (ol ρ1).bind fun lo ρ2 => (oh ρ2).bind fun hi ρ3 => sl1 a lo hi ρ3 := rfl
@[simp] theorem ap_cb (f : List D → Option Rs) (oas : O (List Va)) : oCB f oas (z :: ρ) = (oas (z :: ρ)).bind (cb1 f) := rfl
@[simp] theorem ap_len (o : O Va) : oLen o (z :: ρ) = (o (z :: ρ)).bind len1 := rfl
@[simp] theorem ap_isi (T : String) (o : O Va) : oIsi T o (z :: ρ) = (o (z :: ρ)).bind (isi1 T) := rfl
@[simp] theorem ap_bm (T : String) (f : D → List D → Option Rs) (oo : O Va) (oas : O (List Va)) : oBM T f oo oas (z :: ρ) = (oo (z :: ρ)).bind fun a ρ1 => ty1 T a ρ1 ((oas ρ1).bind fun as ρ2 => met1 f a as ρ2) := rfl
@[simp] theorem ap_seq (a b : Os) : oSeq a b (z :: ρ) = (a (z :: ρ)).then b := rfl
@[simp] theorem ap_next : oNext (z :: ρ) = .nx (z :: ρ) := rfl
@[simp] theorem ap_break : oBreak (z :: ρ) = .bk (z :: ρ) := rfl
@[simp] theorem ap_cont : oCont (z :: ρ) = .ct (z :: ρ) := rfl
@[simp] theorem ap_drop {α : Type} (o : O α) : oDrop o (z :: ρ) = (o (z :: ρ)).bindS fun _ ρ1 => .nx ρ1 := rfl
@[simp] theorem ap_ret (o : O Rs) : oRet o (z :: ρ) = (o (z :: ρ)).bindS fun r ρ1 => .rt r ρ1 := rfl
@[simp] theorem ap_retN : oRetN (z :: ρ) = .rt (.pu .none) (z :: ρ) := rfl
theorem ap_retV (i : Nat) : oRetV i (z :: ρ) = match (z :: ρ)[i]? with | some (.pu d) => .rt (.pu d) (z :: ρ) | some (.ow false c) => .rt (.nw c) ((z :: ρ).set i .no) | _ => .st := rfl
@[simp] theorem ap_ifS (c : O Bool) (a b : Os) : oIfS c a b (z :: ρ) = (c (z :: ρ)).bindS fun t ρ1 => if t = true then a ρ1 else b ρ1 := rfl
@[simp] theorem ap_set (i : Nat) (o : O Rs) : oSet i o (z :: ρ) = (o (z :: ρ)).bindS fun r ρ1 => nx1 (setSl ρ1 i r.sl) := rfl
@[simp] theorem ap_asg (o : O D) (g : D → Rho → Option Rho) : oAsg o g (z :: ρ) = (o (z :: ρ)).bindS fun d ρ1 => nx1 (g d ρ1) := rfl
@[simp] theorem ap_for (oi : O (List D)) (g : D → Rho → Option Rho) (b : Os) : oFor oi g b (z :: ρ) = (oi (z :: ρ)).bindS fun ds ρ1 => forL g b ds ρ1 := rfl
@[simp] theorem ap_itm (o : O Va) : oItm o (z :: ρ) = (o (z :: ρ)).bind itm1 := rfl
@[simp] theorem ap_range (o : O (List D)) : oRange o (z :: ρ) = (o (z :: ρ)).bind rg1 := rfl
@[simp] theorem ap_range2 (o : O (List D)) : oRange2 o (z :: ρ) = (o (z :: ρ)).bind rg2 := rfl
@[simp] theorem ap_range3 (o : O (List D)) : oRange3 o (z :: ρ) = (o (z :: ρ)).bind rg3 := rfl
@[simp] theorem ap_enumL (o : O D) : oEnumL o (z :: ρ) = (o (z :: ρ)).bind en1 := rfl
@[simp] theorem ap_zip (o : O (List D)) : oZip o (z :: ρ) = (o (z :: ρ)).bind zp1 := rfl
@[simp] theorem ap_lc (vs : List Nat) (oi : O (List D)) (g : D → Rho → Option Rho) (ot : O Bool) (oe : O D) : oLc vs oi g ot oe (z :: ρ) = (oi (z :: ρ)).bind (lc1 vs g ot oe) := rfl
@[simp] theorem ap_call (g : Fn) (oas : O (List Va)) : oCall g oas (z :: ρ) = (oas (z :: ρ)).bind (call1 g) := rfl
@[simp] theorem ap_newK : oNewK (z :: ρ) = .ok (.nw (.dk [])) (z :: ρ) := rfl
@[simp] theorem ap_newT : oNewT (z :: ρ) = .ok (.nw (.dt [])) (z :: ρ) := rfl
@[simp] theorem ap_ixA (oa ob : O Va) : oIxA oa ob (z :: ρ) = (oa (z :: ρ)).bind fun a ρ1 => (ob ρ1).bind fun b ρ2 => ixA1 a b ρ2 := rfl
@[simp] theorem ap_inA (neg : Bool) (oa ob : O Va) : oInA neg oa ob (z :: ρ) = (oa (z :: ρ)).bind fun a ρ1 => (ob ρ1).bind fun b ρ2 => inA1 neg a b ρ2 := rfl
@[simp] theorem ap_stA (k : Nat) (ov oi : O D) : oStA k ov oi (z :: ρ) = if isDic (z :: ρ)[k]? = true then oStD k ov oi (z :: ρ) else oStL k ov oi (z :: ρ) := rfl
@[simp] theorem ap_stD (k : Nat) (ov oi : O D) : oStD k ov oi (z :: ρ) = (ov (z :: ρ)).bindS fun d ρ1 => match ρ1[k]? with | some (.ow _ _) => (oi ρ1).bindS fun i ρ2 => stD1 k d i ρ2 | _ => .st := rfl
@[simp] theorem ap_stL (k : Nat) (ov oi : O D) : oStL k ov oi (z :: ρ) = (ov (z :: ρ)).bindS fun d ρ1 => match ρ1[k]? with
  | some (.ow _ (.li _)) => (oi ρ1).bindS fun i ρ2 => stL1 k d i ρ2
  | _ => .st := rfl
@[simp] theorem zp_var0 (d : D) : oVar 0 (.pu d :: ρ) = .ok (.pu d) (.pu d :: ρ) := rfl
theorem ap_c0 (d : D) : oC d [] = .ok d [] := rfl
end
section
variable (a b : Os) (o : O Rs) (d : O D)
@[simp] theorem ap0_seq : oSeq a b [] = (a []).then b := rfl
@[simp] theorem ap0_ret : oRet o [] = (o []).bindS fun r ρ1 => .rt r ρ1 := rfl
@[simp] theorem ap0_res : oRes d [] = (d []).bind fun d ρ1 => .ok (.pu d) ρ1 := rfl
@[simp] theorem ap0_pu : oPu d [] = (d []).bind fun d ρ1 => .ok (.pu d) ρ1 := rfl
@[simp] theorem ap0_frz : oFrz o [] = (o []).bind frz1 := rfl
@[simp] theorem ap0_c (x : D) : oC x [] = .ok x [] := rfl
end
end Ow
namespace Ow
open PySem L2
/-! ### more rules -/
theorem atI_nn {α : Type} {xs : List α} {i : Int} (h : 0 ≤ i) : L2.atI xs i = xs[i.toNat]? := by
  unfold L2.atI L2.ixN
  rw [if_pos h]
  by_cases h1 : i < xs.length
  · rw [if_pos h1]; rfl
  · rw [if_neg h1, List.getElem?_eq_none (by omega)]; rfl
@[simp] theorem atI_lit {α : Type} (xs : List α) (n : Nat) : L2.atI xs (no_index (OfNat.ofNat n) : Int) = xs[n]? := by
  have h := atI_nn (xs := xs) (i := (n : Int)) (Int.natCast_nonneg n)
  exact h
@[simp] theorem atI_0 {α : Type} (xs : List α) : L2.atI xs 0 = xs[0]? := atI_nn (Int.le_refl 0)
@[simp] theorem atI_1 {α : Type} (xs : List α) : L2.atI xs 1 = xs[1]? := atI_nn (by decide)
theorem atI_cast {α : Type} (xs : List α) (n : Nat) : L2.atI xs (n : Int) = xs[n]? := by
  rw [atI_nn (Int.natCast_nonneg n)]
  rfl
@[simp] theorem rdV_rf (ρ : Rho) (i : Nat) : rdV ρ (.rf i) = match ρ[i]? with | some (.ow _ (.li ds)) => some (.list ds) | some (.al k j) => (match ρ[k]? with | some (.ll (.li xss)) => (xss[j]?).map PyData.list | _ => none) | _ => none := rfl
theorem bin1_eq (f : D → D → Option Rs) (a b : Va) (ρ : Rho) : bin1 f a b ρ = match rdV ρ a, rdV ρ b with | some dx, some dy => (match f dx dy with | some r => .ok r ρ | none => .st) | _, _ => .st := rfl
@[simp] theorem bin1_rl (f : D → D → Option Rs) (i : Nat) (d : D) (ρ : Rho) : bin1 f (.rf i) (.pu d) ρ = match rdV ρ (.rf i) with | some dx => (match f dx d with | some r => .ok r ρ | none => .st) | none => .st := by
  rw [bin1_eq, rdV_pu]
  cases rdV ρ (.rf i) <;> rfl
@[simp] theorem bin1_lr (f : D → D → Option Rs) (i : Nat) (d : D) (ρ : Rho) : bin1 f (.pu d) (.rf i) ρ = match rdV ρ (.rf i) with | some dx => (match f d dx with | some r => .ok r ρ | none => .st) | none => .st := by
  rw [bin1_eq, rdV_pu]
  cases rdV ρ (.rf i) <;> rfl
@[simp] theorem ix_l (xs : List D) (i : Int) : fIx (.list xs) (.int i) = (L2.atI xs i).map .pu := rfl
@[simp] theorem ix_t (xs : List D) (i : Int) : fIx (.tuple xs) (.int i) = (L2.atI xs i).map .pu := rfl
@[simp] theorem f_add (i j : Int) : fAdd (.int i) (.int j) = some (.pu (.int (i + j))) := rfl
@[simp] theorem f_sub (i j : Int) : fSub (.int i) (.int j) = some (.pu (.int (i - j))) := rfl
@[simp] theorem f_mulX (i j : Int) : fMulX (.int i) (.int j) = if mulOk i j = true then some (.pu (.int (i * j))) else none := rfl
@[simp] theorem f_div (i j : Int) : fDiv (.int i) (.int j) = if divOk i j = true then some (.pu (.int (i / j))) else none := rfl
@[simp] theorem f_mod (i j : Int) : fMod (.int i) (.int j) = if 0 < j then some (.pu (.int (i % j))) else none := rfl
@[simp] theorem f_pow (i j : Int) : fPow (.int i) (.int j) = if 0 ≤ j ∧ j.natAbs ≤ 1000000 ∧ i.natAbs < 2 ^ 64 then some (.pu (.int (i ^ j.toNat))) else none := rfl
@[simp] theorem f_shl (i j : Int) : fShl (.int i) (.int j) = if 0 ≤ j ∧ j.natAbs ≤ 1000000 ∧ i.natAbs < 2 ^ 64 then some (.pu (.int (i * 2 ^ j.toNat))) else none := rfl
@[simp] theorem f_lt (i j : Int) : fLt (.int i) (.int j) = some (.pu (.bool (decide (i < j)))) := rfl
@[simp] theorem f_le (i j : Int) : fLe (.int i) (.int j) = some (.pu (.bool (decide (i ≤ j)))) := rfl
@[simp] theorem f_gt (i j : Int) : fGt (.int i) (.int j) = some (.pu (.bool (decide (j < i)))) := rfl
@[simp] theorem f_ge (i j : Int) : fGe (.int i) (.int j) = some (.pu (.bool (decide (j ≤ i)))) := rfl
@[simp] theorem f_neg (i : Int) : fNeg (.int i) = some (.pu (.int (-i))) := rfl
@[simp] theorem f_int2 (g : Int → Int → Int) (i j : Int) : fInt2 g (.int i) (.int j) = some (.pu (.int (g i j))) := rfl
@[simp] theorem f_intX (i : Int) : fIntX [.int i] = some (.pu (.int i)) := rfl
@[simp] theorem f_intXb (b : Bool) : fIntX [.bool b] = some (.pu (.int (if b then 1 else 0))) := by cases b <;> rfl
@[simp] theorem f_abs (i : Int) : fAbs [.int i] = some (.pu (.int (if i < 0 then -i else i))) := rfl
@[simp] theorem f_lenL (xs : List D) : fLen (.list xs) = some xs.length := rfl
@[simp] theorem f_lenT (xs : List D) : fLen (.tuple xs) = some xs.length := rfl
@[simp] theorem f_listL (xs : List D) : fList [.list xs] = some (.nw (.li xs)) := rfl
@[simp] theorem f_listT (xs : List D) : fList [.tuple xs] = some (.nw (.li xs)) := rfl
@[simp] theorem f_tupleL (xs : List D) : fTuple [.list xs] = some (.pu (.tuple xs)) := rfl
@[simp] theorem f_tupleT (xs : List D) : fTuple [.tuple xs] = some (.pu (.tuple xs)) := rfl
@[simp] theorem cb1_eq (f : List D → Option Rs) (as : List Va) (ρ : Rho) : cb1 f as ρ = match rdVs ρ as with | some ds => (match f ds with | some r => .ok r ρ | none => .st) | none => .st := rfl
theorem setSl_eq (ρ : Rho) (i : Nat) (s : Sl) : setSl ρ i s = match ρ[i]? with | some (.ow true _) => none | some _ => some (ρ.set i s) | none => none := rfl
theorem fnOf_eq (n : Nat) (b : Os) (as : List Sl) : fnOf n b as = match b (as ++ List.replicate (n - as.length) Sl.no) with
  | .nx ρ => .ret (.pu .none) (ρ.take as.length)
  | .rt r ρ => .ret r (ρ.take as.length)
  | _ => .st := rfl
@[simp] theorem aug_eq (i : Nat) (f : D → D → Option Rs) (o : O Va) (z : Sl) (ρ : Rho) : oAug i f o (z :: ρ) = match (z :: ρ)[i]? with | some (.pu x) => (o (z :: ρ)).bindS (aug1 i f x) | _ => .st := rfl
@[simp] theorem aug1_eq (i : Nat) (f : D → D → Option Rs) (x : D) (b : Va) (ρ : Rho) : aug1 i f x b ρ = match rdV ρ b with
  | some dy => (match f x dy with
    | some (.pu d) => nx1 (setSl ρ i (.pu d))
    | _ => .st)
  | none => .st := rfl
@[simp] theorem auL_eq (k : Nat) (f : D → D → Option Rs) (oi oe : O D) (z : Sl) (ρ : Rho) : oAuL k f oi oe (z :: ρ) = match (z :: ρ)[k]? with | some (.ow _ (.li _)) => (oi (z :: ρ)).bindS (auL2 k f oe) | _ => .st := rfl
@[simp] theorem auL2_eq (k : Nat) (f : D → D → Option Rs) (oe : O D) (j : Int) (ρ : Rho) : auL2 k f oe (.int j) ρ = match ρ[k]? with
  | some (.ow _ (.li ds)) => if 0 ≤ j then (match ds[j.toNat]? with
    | some x => (oe ρ).bindS fun d ρ1 => auL1 k f j.toNat x d ρ1
    | none => .st)
    else .st
  | _ => .st := by
  unfold auL2
  cases ρ[k]? with
  | none => rfl
  | some s =>
    cases s with
    | ow p c => cases c <;> rfl
    | _ => rfl
@[simp] theorem auL1_eq (k : Nat) (f : D → D → Option Rs) (j : Nat) (x d : D) (ρ : Rho) : auL1 k f j x d ρ = match ρ[k]? with
  | some (.ow p (.li ds)) => (match f x d with
    | some (.pu y) => if j < ds.length then .nx (ρ.set k (.ow p (.li (ds.set j y)))) else .st
    | _ => .st)
  | _ => .st := rfl
@[simp] theorem stL1_eq (k : Nat) (d : D) (j : Int) (ρ : Rho) : stL1 k d (.int j) ρ = match ρ[k]? with
  | some (.ow p (.li ds)) => (match stL ds (.int j) d with
    | some c => .nx (ρ.set k (.ow p c))
    | none => .st)
  | _ => .st := by
  unfold stL1
  rfl
theorem divOk_of {i j : Int} (h : 0 < j) (h2 : j < 2 ^ 64) : divOk i j = true := by
  unfold divOk
  refine decide_eq_true ⟨h, ?_⟩
  have : j.natAbs < 2 ^ 64 := by omega
  have := (Nat.log2_lt (by omega : j.natAbs ≠ 0)).mpr this
  omega
theorem divOk_of2 {i j : Int} (h : 0 < j) (h2 : j.natAbs.log2 < 9000) : divOk i j = true := decide_eq_true ⟨h, h2⟩
theorem mulOk_l {i j : Int} (h1 : -(2 ^ 64) < i) (h2 : i < 2 ^ 64) : mulOk i j = true := decide_eq_true (.inl (by omega))
theorem mulOk_r {i j : Int} (h1 : -(2 ^ 64) < j) (h2 : j < 2 ^ 64) : mulOk i j = true := decide_eq_true (.inr (by omega))
section
variable (z : Sl) (ρ : Rho)
@[simp] theorem mut_eq (i : Nat) (f : Ct → List D → Option (Ct × D)) (oas : O (List Va)) : oMut i f oas (z :: ρ) = match (z :: ρ)[i]? with | some (.ow _ (.li _)) => (oas (z :: ρ)).bind (mut1 i f) | _ => .st := rfl
@[simp] theorem mutK_eq (i : Nat) (f : Ct → List D → Option (Ct × D)) (oas : O (List D)) : oMutK i f oas (z :: ρ) = match (z :: ρ)[i]? with | some (.ow _ (.li _)) => (oas (z :: ρ)).bind (mutK1 i f) | _ => .st := rfl
@[simp] theorem mut1_eq (i : Nat) (f : Ct → List D → Option (Ct × D)) (as : List Va) : mut1 i f as (z :: ρ) = match (z :: ρ)[i]?, rdVs (z :: ρ) as with
  | some (.ow p c), some ds => (match f c ds with
    | some (c', d) => .ok d ((z :: ρ).set i (.ow p c'))
    | none => .st)
  | _, _ => .st := rfl
@[simp] theorem mutK1_eq (i : Nat) (f : Ct → List D → Option (Ct × D)) (ds : List D) : mutK1 i f ds (z :: ρ) = match (z :: ρ)[i]? with
  | some (.ow p c) => (match f c ds with
    | some (c', d) => .ok d ((z :: ρ).set i (.ow p c'))
    | none => .st)
  | _ => .st := rfl
@[simp] theorem call1_eq (g : Fn) (vas : List Va) : call1 g vas (z :: ρ) = match argsOf (z :: ρ) vas with
  | some as => if (rfs vas).Nodup then (match g as with
    | .st => .st
    | .ret r outs => .ok r (wb vas outs (z :: ρ))
    | .exc x outs => .ex x (wb vas outs (z :: ρ)))
    else .st
  | none => .st := rfl
@[simp] theorem call0_eq (g : Fn) (vas : List Va) : call1 g vas [] = match argsOf [] vas with
  | some as => if (rfs vas).Nodup then (match g as with
    | .st => .st
    | .ret r outs => .ok r (wb vas outs [])
    | .exc x outs => .ex x (wb vas outs []))
    else .st
  | none => .st := rfl
@[simp] theorem argOf_rf (i : Nat) : argOf (z :: ρ) (.rf i) = match (z :: ρ)[i]? with | some (.ow _ c) => some (.ow true c) | _ => none := rfl
@[simp] theorem setCt_cons (i : Nat) (c : Ct) : setCt (z :: ρ) i c = match (z :: ρ)[i]? with | some (.ow p _) => (z :: ρ).set i (.ow p c) | _ => z :: ρ := rfl
@[simp] theorem keep1_rf (i : Nat) : keep1 (.rf i) (z :: ρ) = match (z :: ρ)[i]? with | some (.ow false (.li ds)) => .ok (.list ds) ((z :: ρ).set i (.pu (.list ds))) | _ => .st := rfl
@[simp] theorem itm1_rf (i : Nat) : itm1 (.rf i) (z :: ρ) = match (z :: ρ)[i]? with | some (.ow false (.li ds)) => .ok ds ((z :: ρ).set i (.pu (.list ds))) | _ => .st := rfl
@[simp] theorem met1_eq (f : D → List D → Option Rs) (a : Va) (as : List Va) : met1 f a as (z :: ρ) = match rdV (z :: ρ) a, rdVs (z :: ρ) as with
  | some d, some ds => (match f d ds with
    | some r => .ok r (z :: ρ)
    | none => .st)
  | _, _ => .st := rfl
@[simp] theorem met1_eq0 (f : D → List D → Option Rs) (a : Va) (as : List Va) : met1 f a as [] = match rdV [] a, rdVs [] as with
  | some d, some ds => (match f d ds with
    | some r => .ok r []
    | none => .st)
  | _, _ => .st := rfl
@[simp] theorem ty1_pu (T : String) (d : D) (m : M Rs) (ρ : Rho) : ty1 T (.pu d) ρ m = if isTy T d = true then m else .st := rfl
@[simp] theorem isTy_s (x : Str) : isTy "str" (.str x) = true := by unfold isTy; exact beq_self_eq_true _
@[simp] theorem sl1_eq (a : Va) (lo hi : Option Int) : sl1 a lo hi (z :: ρ) = match rdV (z :: ρ) a with
  | some d => (match fSl d lo hi with
    | some r => .ok r (z :: ρ)
    | none => .st)
  | none => .st := rfl
@[simp] theorem gNm_eq (i : Nat) (d : D) : gNm i d (z :: ρ) = setSl (z :: ρ) i (.pu d) := rfl
@[simp] theorem gCn_eq (g : D → Rho → Option Rho) (gs : List D → Rho → Option Rho) (d : D) (r : List D) : gCn g gs (d :: r) (z :: ρ) = (g d (z :: ρ)).bind (gs r) := rfl
@[simp] theorem gNl_eq : gNl [] ρ = some ρ := rfl
@[simp] theorem gTp_t (n : Nat) (gs : List D → Rho → Option Rho) (ds : List D) : gTp n gs (.tuple ds) ρ = if ds.length = n then gs ds ρ else none := rfl
@[simp] theorem gTp_k (n : Nat) (gs : List D → Rho → Option Rho) (ds : List D) : gTp n gs (.dict [(.bool true, .tuple ds)]) ρ = if ds.length = n then gs ds ρ else none := rfl
@[simp] theorem rg1_eq (j : Int) : rg1 [.int j] ρ = if j.natAbs < 4611686018427387904 then .ok (rangeD 0 j.toNat) ρ else .st := rfl
@[simp] theorem rg2_eq (i j : Int) : rg2 [.int i, .int j] ρ = if i.natAbs < 4611686018427387904 ∧ j.natAbs < 4611686018427387904 then .ok (rangeD i (j - i).toNat) ρ else .st := rfl
@[simp] theorem en1_eq (ds : List D) : en1 (.list ds) ρ = .ok (enumD 0 ds) ρ := rfl
@[simp] theorem zp1_l (xs ys : List D) : zp1 [.list xs, .list ys] ρ = .ok (pairsD xs ys) ρ := rfl
@[simp] theorem zp1_t (xs ys : List D) : zp1 [.tuple xs, .tuple ys] ρ = .ok (pairsD xs ys) ρ := rfl
@[simp] theorem isi1_eq (T : String) (d : D) : isi1 T (.pu d) ρ = match tyName d with
  | some n => (match L2.kitB n T with
    | some b => .ok (.pu (.bool b)) ρ
    | none => .st)
  | none => .st := rfl
end
@[simp] theorem f_app (xs : List D) (d : D) : fAppend (.li xs) [d] = if xs.length < 16000000 then some (.li (xs ++ [d]), .none) else none := rfl
@[simp] theorem f_ext (xs ys : List D) : fExtend (.li xs) [.list ys] = if xs.length + ys.length ≤ 16000000 then some (.li (xs ++ ys), .none) else none := rfl
@[simp] theorem f_popAt (xs : List D) (i : Int) : fPopAt (.li xs) [.int i] = if 0 ≤ i ∧ i.natAbs < 4611686018427387904 then (xs[i.toNat]?).map fun d => (.li (xs.eraseIdx i.toNat), d) else none := rfl
@[simp] theorem f_lenS (x : Str) : fLen (.str x) = if x.length ≤ 16000000 then some x.length else none := rfl
@[simp] theorem f_addS (i j : Str) : fAdd (.str i) (.str j) = if i.length + j.length ≤ 16000000 then some (.pu (.str (i ++ j))) else none := rfl
@[simp] theorem f_addL (xs ys : List D) : fAdd (.list xs) (.list ys) = if xs.length + ys.length ≤ 16000000 then some (.nw (.li (xs ++ ys))) else none := rfl
@[simp] theorem f_addT (xs ys : List D) : fAdd (.tuple xs) (.tuple ys) = if xs.length + ys.length ≤ 16000000 then some (.pu (.tuple (xs ++ ys))) else none := rfl
@[simp] theorem f_mulS (a : Str) (n : Int) : fMulX (.str a) (.int n) = if mulSok a n = true then some (.pu (.str (repT a n))) else none := rfl
@[simp] theorem ix_s (x : Str) (i : Int) : fIx (.str x) (.int i) = if x.length ≤ 16000000 then (L2.atI x.cps.toList i).map fun c => .pu (.str ⟨#[c]⟩) else none := rfl
@[simp] theorem f_slL (xs : List D) (lo hi : Option Int) : fSl (.list xs) lo hi = some (.nw (.li (cutD xs lo hi))) := rfl
@[simp] theorem f_slK (xs : List D) (lo hi : Option Int) : fSl (.dict [(.bool true, .tuple xs)]) lo hi = if HT.sIx xs.length 0 lo = 0 ∧ HT.sIx xs.length xs.length hi = xs.length then some (.pu (kon xs)) else some (.pu (.tuple (cutD xs lo hi))) := rfl
@[simp] theorem f_slT (xs : List D) (lo hi : Option Int) : fSl (.tuple xs) lo hi = some (.pu (.tuple (cutD xs lo hi))) := rfl
@[simp] theorem f_slS (x : Str) (lo hi : Option Int) : fSl (.str x) lo hi = if x.length ≤ 16000000 then some (.pu (.str (cutS x lo hi))) else none := rfl
@[simp] theorem f_inS (neg : Bool) (x y : Str) : fIn neg (.str x) (.str y) = some (.pu (.bool (if neg then !inT x y else inT x y))) := rfl
@[simp] theorem f_join (a : Str) (ys : List Str) : fJoin (.str a) [.list (ys.map PyData.str)] = if (ys.map (·.length)).sum + ys.length * a.length ≤ 16000000 then some (.pu (.str (Txt.join a ys))) else none := by
  simp [fJoin]
@[simp] theorem f_split (a b : Str) : fSplit (.str a) [.str b] = if (b.length == 0) = false ∧ a.length + 2 ≤ 16000000 then some (.nw (.li ((Txt.split a b).map PyData.str))) else none := rfl
@[simp] theorem f_str (i : Int) : fStr1 [.int i] = if i.natAbs.log2 < 1920 then some (.pu (.str (toString i : String))) else none := rfl
@[simp] theorem f_intS (a : Str) : fIntX [.str a] = if a.length ≤ 640 then (PySem.intText? a).map fun n => .pu (.int n) else none := rfl
@[simp] theorem f_all (bs : List Bool) : fAll [.list (bs.map PyData.bool)] = some (.pu (.bool (bs.all id))) := by
  show (boolsOf (bs.map PyData.bool)).map (fun bs => Rs.pu (.bool (bs.all id))) = _
  rw [boolsOf_map]
  rfl
end Ow
namespace Ow
open PySem L2
/-! ### loops, by invariants -/
theorem lcL_filter {α : Type} {vs : List Nat} {g : D → Rho → Option Rho} {ot : O Bool} {oe : O D} {ρ : Rho} {k : α → D} {p : α → Bool} {f : α → D} : ∀ {l : List α},
    (∀ a ∈ l, ∃ ρ1 ρ2, g (k a) ρ = some ρ1 ∧ ot ρ1 = .ok (p a) ρ2 ∧ (p a = true → ∃ ρ3, oe ρ2 = .ok (f a) ρ3 ∧ wipeR ρ3 vs = ρ) ∧ (p a = false → wipeR ρ2 vs = ρ)) → lcL vs g ot oe (l.map k) ρ = .ok ((l.filter p).map f) ρ
  | [], _ => rfl
  | a :: l, h => by
    obtain ⟨ρ1, ρ2, h1, h2, h3, h4⟩ := h a (List.mem_cons_self)
    have ih := lcL_filter (l := l) fun d hd => h d (List.mem_cons_of_mem _ hd)
    rw [List.map_cons, lcL_cons, h1]
    dsimp only
    rw [h2]
    cases hp : p a with
    | true =>
      obtain ⟨ρ3, h5, h6⟩ := h3 hp
      dsimp only
      rw [h5]
      dsimp only
      rw [h6, ih, M.bind_ok, List.filter_cons_of_pos hp, List.map_cons]
    | false =>
      dsimp only
      rw [h4 hp, ih, List.filter_cons_of_neg (by rw [hp]; exact Bool.false_ne_true)]
theorem lcL_map {α : Type} {vs : List Nat} {g : D → Rho → Option Rho} {oe : O D} {ρ : Rho} {k f : α → D} {l : List α}
    (h : ∀ a ∈ l, ∃ ρ1 ρ3, g (k a) ρ = some ρ1 ∧ oe ρ1 = .ok (f a) ρ3 ∧ wipeR ρ3 vs = ρ) : lcL vs g oYes oe (l.map k) ρ = .ok (l.map f) ρ := by
  rw [lcL_filter (p := fun _ => true) (f := f)]
  · rw [List.filter_eq_self.mpr (fun _ _ => rfl)]
  · intro d hd
    obtain ⟨ρ1, ρ3, h1, h2, h3⟩ := h d hd
    exact ⟨ρ1, ρ1, h1, rfl, fun _ => ⟨ρ3, h2, h3⟩, fun q => by cases q⟩
theorem lcL_inv {vs : List Nat} {g : D → Rho → Option Rho} {oe : O D} {P : D → Prop} (I : Rho → Prop) : ∀ {ds : List D} {ρ : Rho},
    (∀ d ∈ ds, ∀ ρ, I ρ → ∃ y ρ1 ρ3, g d ρ = some ρ1 ∧ oe ρ1 = .ok y ρ3 ∧ P y ∧ I (wipeR ρ3 vs)) → I ρ → ∃ ys ρ', lcL vs g oYes oe ds ρ = .ok ys ρ' ∧ I ρ' ∧ ys.length = ds.length ∧ ∀ y ∈ ys, P y
  | [], ρ, _, hi => ⟨[], ρ, rfl, hi, rfl, fun y hy => by cases hy⟩
  | d :: ds, ρ, h, hi => by
    obtain ⟨y, ρ1, ρ3, h1, h2, h3, h4⟩ := h d List.mem_cons_self ρ hi
    obtain ⟨ys, ρ', h5, h6, h7, h8⟩ := lcL_inv I (ds := ds) (fun d hd => h d (List.mem_cons_of_mem _ hd)) h4
    refine ⟨y :: ys, ρ', ?_, h6, by rw [List.length_cons, List.length_cons, h7], fun z hz => ?_⟩
    · rw [lcL_cons, h1]
      dsimp only
      rw [oYes_eq]
      dsimp only
      rw [h2]
      dsimp only
      rw [h5, M.bind_ok]
    · rcases List.mem_cons.mp hz with rfl | hz
      · exact h3
      · exact h8 z hz
/-- a loop that runs to its end -/
theorem forL_inv {g : D → Rho → Option Rho} {b : Os} (I : List D → Rho → Prop) : ∀ {ds : List D} {ρ : Rho},
    (∀ d r ρ, d ∈ ds → I (d :: r) ρ → ∃ ρ1 ρ2, g d ρ = some ρ1 ∧ (b ρ1 = .nx ρ2 ∨ b ρ1 = .ct ρ2) ∧ I r ρ2) → I ds ρ → ∃ ρ', forL g b ds ρ = .nx ρ' ∧ I [] ρ'
  | [], ρ, _, hi => ⟨ρ, rfl, hi⟩
  | d :: ds, ρ, h, hi => by
    obtain ⟨ρ1, ρ2, h1, h2, h3⟩ := h d ds ρ List.mem_cons_self hi
    obtain ⟨ρ', h5, h6⟩ := forL_inv I (ds := ds) (fun d r ρ hd => h d r ρ (List.mem_cons_of_mem _ hd)) h3
    refine ⟨ρ', ?_, h6⟩
    rw [forL_cons, h1]
    dsimp only
    rcases h2 with h2 | h2 <;> rw [h2] <;> exact h5
theorem forL_all {g : D → Rho → Option Rho} {b : Os} (I : Rho → Prop) {ds : List D} {ρ : Rho}
    (h : ∀ d ∈ ds, ∀ ρ, I ρ → ∃ ρ1 ρ2, g d ρ = some ρ1 ∧ b ρ1 = .nx ρ2 ∧ I ρ2) (hi : I ρ) : ∃ ρ', forL g b ds ρ = .nx ρ' ∧ I ρ' :=
  forL_inv (fun _ => I) (fun d r ρ hd hi => by obtain ⟨ρ1, ρ2, h1, h2, h3⟩ := h d hd ρ hi; exact ⟨ρ1, ρ2, h1, .inl h2, h3⟩) hi
theorem whl_inv {c : O Bool} {b : Os} (I E : Rho → Prop) (m : Rho → Nat) (h : ∀ ρ, I ρ → (∃ ρ1, c ρ = .ok false ρ1 ∧ E ρ1) ∨ (∃ ρ1 ρ2, c ρ = .ok true ρ1 ∧ (b ρ1 = .nx ρ2 ∨ b ρ1 = .ct ρ2) ∧ I ρ2 ∧ m ρ2 < m ρ)) :
    ∀ (n : Nat) (ρ : Rho), I ρ → m ρ < n → ∃ ρ', whl c b n ρ = .nx ρ' ∧ E ρ'
  | 0, ρ, _, hn => absurd hn (Nat.not_lt_zero _)
  | n + 1, ρ, hi, hn => by
    rw [whl_succ]
    rcases h ρ hi with ⟨ρ1, h1, h2⟩ | ⟨ρ1, ρ2, h1, h2, h3, h4⟩
    · rw [h1]
      exact ⟨ρ1, rfl, h2⟩
    · obtain ⟨ρ', h5, h6⟩ := whl_inv I E m h n ρ2 h3 (by omega)
      refine ⟨ρ', ?_, h6⟩
      rw [h1, M.bindS_ok, if_pos rfl]
      rcases h2 with h2 | h2 <;> rw [h2] <;> exact h5
theorem while_inv {c : O Bool} {b : Os} (I E : Rho → Prop) (m : Rho → Nat) {ρ : Rho} (hi : I ρ) (h : ∀ ρ, I ρ → (∃ ρ1, c ρ = .ok false ρ1 ∧ E ρ1) ∨ (∃ ρ1 ρ2, c ρ = .ok true ρ1 ∧ (b ρ1 = .nx ρ2 ∨ b ρ1 = .ct ρ2) ∧ I ρ2 ∧ m ρ2 < m ρ)) :
    ∃ ρ', oWhile c b ρ = .nx ρ' ∧ E ρ' := by
  obtain ⟨ρ', h1, h2⟩ := whl_inv I E m h (m ρ + 1) ρ hi (Nat.lt_succ_self _)
  exact ⟨ρ', oWhile_is _ h1 (by intro q; cases q), h2⟩
/-! ### data that compares -/
theorem lc1_eq (vs : List Nat) (g : D → Rho → Option Rho) (ot : O Bool) (oe : O D) (ds : List D) (ρ1 : Rho) : lc1 vs g ot oe ds ρ1 = if okW ρ1 vs = true ∧ ds.length ≤ 16000000 then lcE vs ρ1 (lcL vs g ot oe ds (wipeR ρ1 vs)) else .st := rfl
theorem inT_one (c : Nat) (y : Str) : inT ⟨#[c]⟩ y = decide (c ∈ y.cps.toList) := rfl
/-- a slot that may be written over -/
def okS (s : Option Sl) : Bool := match s with
  | some (.ow true _) => false
  | some _ => true
  | none => false
@[simp] theorem okS_no : okS (some .no) = true := rfl
@[simp] theorem okS_pu (d : D) : okS (some (.pu d)) = true := rfl
@[simp] theorem okS_ow (c : Ct) : okS (some (.ow false c)) = true := rfl
theorem setSl_ok (ρ : Rho) (i : Nat) (s : Sl) : setSl ρ i s = if okS ρ[i]? = true then some (ρ.set i s) else none := by
  unfold setSl okS
  cases ρ[i]? with
  | none => rfl
  | some t =>
    cases t with
    | ow p c => cases p <;> rfl
    | _ => rfl
def Nw (s : Sl) : Prop := okS (some s) = true
theorem nw_pu (d : D) : Nw (.pu d) := rfl
theorem nw_no : Nw .no := rfl
/-! ### dicts -/
section
variable {κ : Type} [DecidableEq κ]
theorem valD_nil (k : κ) : valD ([] : List (κ × D)) k = none := rfl
theorem valD_cons (p : κ × D) (kvs : List (κ × D)) (k : κ) : valD (p :: kvs) k = if p.1 = k then some p.2 else valD kvs k := by
  unfold valD
  rw [List.find?_cons]
  by_cases h : p.1 = k <;> simp [h]
theorem valD_map (kvs : List (κ × D)) (k k' : κ) (v : D) : valD (kvs.map fun kv => if kv.1 = k then (kv.1, v) else kv) k' = if k' = k then (valD kvs k').map (fun _ => v) else valD kvs k' := by
  induction kvs with
  | nil => by_cases h : k' = k <;> simp [valD_nil, h]
  | cons p r ih =>
    obtain ⟨p1, p2⟩ := p
    rw [List.map_cons, valD_cons, valD_cons, ih]
    by_cases h : p1 = k
    · subst h
      rw [if_pos rfl]
      dsimp only
      by_cases h2 : p1 = k'
      · subst h2; simp
      · have : ¬ k' = p1 := fun e => h2 e.symm
        simp [h2, this]
    · rw [if_neg h]
      dsimp only
      by_cases h2 : p1 = k'
      · subst h2
        simp [h]
      · simp [h2]
theorem valD_app (kvs : List (κ × D)) (k k' : κ) (v : D) : valD (kvs ++ [(k, v)]) k' = match valD kvs k' with | some d => some d | none => if k = k' then some v else none := by
  induction kvs with
  | nil => simp [valD_cons, valD_nil]
  | cons p r ih =>
    rw [List.cons_append, valD_cons, valD_cons, ih]
    by_cases h : p.1 = k' <;> simp [h]
theorem any_val (kvs : List (κ × D)) (k : κ) : (kvs.any fun kv => decide (kv.1 = k)) = (valD kvs k).isSome := by
  induction kvs with
  | nil => rfl
  | cons p r ih =>
    rw [List.any_cons, valD_cons, ih]
    by_cases h : p.1 = k <;> simp [h]
theorem valD_put (kvs : List (κ × D)) (k k' : κ) (v : D) : valD (putD kvs k v) k' = if k' = k then some v else valD kvs k' := by
  unfold putD
  rw [any_val]
  by_cases h : (valD kvs k).isSome = true
  · rw [if_pos h, valD_map]
    by_cases h2 : k' = k
    · subst h2
      rw [if_pos rfl, if_pos rfl]
      obtain ⟨d, hd⟩ := Option.isSome_iff_exists.mp h
      rw [hd]; try rfl
    · rw [if_neg h2]; try rw [if_neg h2]
  · rw [if_neg h, valD_app]
    have hn : valD kvs k = none := by simpa using h
    by_cases h2 : k' = k
    · subst h2
      simp [hn]
    · have : ¬ k = k' := fun e => h2 e.symm
      rw [if_neg h2]
      cases valD kvs k' <;> simp [this]
theorem putD_len (kvs : List (κ × D)) (k : κ) (v : D) : (putD kvs k v).length ≤ kvs.length + 1 := by
  unfold putD
  split
  · rw [List.length_map]; omega
  · rw [List.length_append]; exact Nat.le_refl _
end
section
variable (z : Sl) (ρ : Rho)
@[simp] theorem ctOf_rf (i : Nat) : ctOf (z :: ρ) (.rf i) = match (z :: ρ)[i]? with | some (.ow _ c) => some c | _ => none := rfl
@[simp] theorem vaDic_rf (i : Nat) : vaDic (z :: ρ) (.rf i) = isDic (z :: ρ)[i]? := rfl
@[simp] theorem isDic_dk (p : Bool) (kvs : List (Key × D)) : isDic (some (.ow p (.dk kvs))) = true := rfl
@[simp] theorem isDic_dt (p : Bool) (kvs : List (List Key × D)) : isDic (some (.ow p (.dt kvs))) = true := rfl
@[simp] theorem isDic_li (p : Bool) (xs : List D) : isDic (some (.ow p (.li xs))) = false := rfl
@[simp] theorem isDic_pu (d : D) : isDic (some (.pu d)) = false := rfl
@[simp] theorem dGet_dk (kvs : List (Key × D)) (k : D) : dGet (.dk kvs) k = (keyOf k).map (valD kvs) := rfl
@[simp] theorem dGet_dt (kvs : List (List Key × D)) (k : D) : dGet (.dt kvs) k = (tkOf k).map (valD kvs) := rfl
@[simp] theorem keyOf_s (x : Str) : keyOf (.str x) = some (.inr x) := rfl
@[simp] theorem keyOf_i (i : Int) : keyOf (.int i) = some (.inl i) := rfl
@[simp] theorem dPut_dk (kvs : List (Key × D)) (k v : D) : dPut (.dk kvs) k v = if kvs.length < 16000000 then (keyOf k).map fun k => .dk (putD kvs k v) else none := rfl
@[simp] theorem dPut_dt (kvs : List (List Key × D)) (k v : D) : dPut (.dt kvs) k v = if kvs.length < 16000000 then (tkOf k).map fun k => .dt (putD kvs k v) else none := rfl
@[simp] theorem stD1_eq (k : Nat) (d i : D) : stD1 k d i (z :: ρ) = match (z :: ρ)[k]? with
  | some (.ow p c) => (match dPut c i d with
    | some c' => .nx ((z :: ρ).set k (.ow p c'))
    | none => .st)
  | _ => .st := rfl
@[simp] theorem inA1_rf (neg : Bool) (a : Va) (i : Nat) : inA1 neg a (.rf i) (z :: ρ) = if isDic (z :: ρ)[i]? = true then din1 neg a (.rf i) (z :: ρ) else bin1 (fIn neg) a (.rf i) (z :: ρ) := rfl
@[simp] theorem din1_eq (neg : Bool) (a b : Va) : din1 neg a b (z :: ρ) = match rdV (z :: ρ) a, ctOf (z :: ρ) b with
  | some k, some c => (match dGet c k with
    | some o => .ok (.pu (.bool (if neg then !o.isSome else o.isSome))) (z :: ρ)
    | none => .st)
  | _, _ => .st := rfl
@[simp] theorem ixA1_rf (b : Va) (i : Nat) : ixA1 (.rf i) b (z :: ρ) = if isDic (z :: ρ)[i]? = true then dix1 (.rf i) b (z :: ρ) else bin1 fIx (.rf i) b (z :: ρ) := rfl
@[simp] theorem dix1_eq (a b : Va) : dix1 a b (z :: ρ) = match ctOf (z :: ρ) a, rdV (z :: ρ) b with
  | some c, some k => (match dGet c k with
    | some (some d) => .ok (.pu d) (z :: ρ)
    | _ => .st)
  | _, _ => .st := rfl
@[simp] theorem f_inK (neg : Bool) (x : D) (ys : List D) : fIn neg x (.dict [(.bool true, .tuple ys)]) = if flatD x = true ∧ ys.all flatD = true then some (.pu (.bool (if neg then !inD x ys else inD x ys))) else none := by cases x <;> rfl
@[simp] theorem f_inL (neg : Bool) (x : D) (ys : List D) : fIn neg x (.list ys) = if flatD x = true ∧ ys.all flatD = true then some (.pu (.bool (if neg then !inD x ys else inD x ys))) else none := by cases x <;> rfl
@[simp] theorem f_inTu (neg : Bool) (x : D) (ys : List D) : fIn neg x (.tuple ys) = if flatD x = true ∧ ys.all flatD = true then some (.pu (.bool (if neg then !inD x ys else inD x ys))) else none := by cases x <;> rfl
end
theorem rg1_nat {n : Nat} (h : n ≤ 1000000) (ρ : Rho) : rg1 [.int (n : Int)] ρ = .ok (rangeD 0 n) ρ := by
  unfold rg1
  dsimp only
  rw [if_pos (by omega)]
  rfl
theorem rg1_int {n : Int} (h0 : 0 ≤ n) (h : n ≤ 1000000) (ρ : Rho) : rg1 [.int n] ρ = .ok (rangeD 0 n.toNat) ρ := by
  unfold rg1
  dsimp only
  rw [if_pos (by omega)]
theorem rangeD_map (n : Nat) : rangeD 0 n = (List.range n).map fun k => .int ((k : Nat) : Int) := by
  unfold rangeD
  refine List.map_congr_left fun k _ => ?_
  rw [Int.zero_add]
theorem rangeD_length (lo : Int) (n : Nat) : (rangeD lo n).length = n := by unfold rangeD; simp
end Ow
namespace Ow
open PySem PySem.W PySem.Spec PyProof.Rows L2
/-! ### max, min of a tuple of ints -/
theorem reads_ints {h : Heap} : ∀ {ns : List Int} {us : List Value}, Vals (ns.map V.int) us → ReadsAll h us (ns.map PyData.int) []
  | [], _, .nil => .nil
  | n :: ns, _, .cons r rs => by
    obtain ⟨t, rfl⟩ := r
    exact .cons (.int n t) (reads_ints rs)
theorem depth_ints : ∀ ns : List Int, PyData.depthAll (ns.map PyData.int) = 0
  | [] => rfl
  | n :: ns => by show max 0 (PyData.depthAll (ns.map PyData.int)) = 0; rw [depth_ints ns]; rfl
theorem alikeInts (ns : List Int) : AlikeAll (ns.map PyData.int) := by
  refine ⟨fun x hx y hy => ?_, fun x hx => ?_⟩
  · obtain ⟨i, _, rfl⟩ := List.mem_map.mp hx
    obtain ⟨j, _, rfl⟩ := List.mem_map.mp hy
    rfl
  · obtain ⟨i, _, rfl⟩ := List.mem_map.mp hx
    intro e
    cases e
def rMaxT (K : PySem.W.Frag) : List V → Hp → VK → Prop := fun vs H Q => ∃ (a : Addr) (n : Int) (ns : List Int), vs = [V.ref a] ∧ SqT K H a ((n :: ns).map V.int) ∧ Q (.int (ns.foldl max n)) H
def rMinT (K : PySem.W.Frag) : List V → Hp → VK → Prop := fun vs H Q => ∃ (a : Addr) (n : Int) (ns : List Int), vs = [V.ref a] ∧ SqT K H a ((n :: ns).map V.int) ∧ Q (.int (ns.foldl min n)) H
section
variable {X : Cx}
theorem cr_maxT (hc : X.calm = true) (hu : X.A.units + 64 < cLine) : CallR X (.builtin "max") (rMaxT X.K) := by
  intro pins s σ H vs us Q I r h
  obtain ⟨a, n, ns, rfl, hs, q⟩ := h
  obtain ⟨its, rv, hl, _⟩ := I.tuple hs
  rw [Vals.ref1 r]
  have rd : ReadsAll s.heap its.toArray.toList (.int n :: ns.map PyData.int) [] := reads_ints (ns := n :: ns) rv
  refine max_tuple_data (I.ok.hd hc) hl rd (alikeInts (n :: ns)) (by
    have e := depth_ints (n :: ns)
    show X.A.units + 1 + PyData.depthAll ((n :: ns).map PyData.int) < cLine
    rw [e]; omega) fun i v h' tk bs hv hr hk => ?_
  rw [maxD_ints] at hr
  cases hr
  exact ⟨.int _, H, I.kept hk, ⟨_, rfl⟩, q⟩
theorem cr_minT (hc : X.calm = true) (hu : X.A.units + 64 < cLine) : CallR X (.builtin "min") (rMinT X.K) := by
  intro pins s σ H vs us Q I r h
  obtain ⟨a, n, ns, rfl, hs, q⟩ := h
  obtain ⟨its, rv, hl, _⟩ := I.tuple hs
  rw [Vals.ref1 r]
  have rd : ReadsAll s.heap its.toArray.toList (.int n :: ns.map PyData.int) [] := reads_ints (ns := n :: ns) rv
  refine min_tuple_data (I.ok.hd hc) hl rd (alikeInts (n :: ns)) (by
    have e := depth_ints (n :: ns)
    show X.A.units + 1 + PyData.depthAll ((n :: ns).map PyData.int) < cLine
    rw [e]; omega) fun i v h' tk bs hv hr hk => ?_
  rw [minD_ints] at hr
  cases hr
  exact ⟨.int _, H, I.kept hk, ⟨_, rfl⟩, q⟩
end
def fMax1X : List D → Option Rs
  | [.tuple xs] => match intsOf xs with
    | some (n :: ns) => some (.pu (.int (ns.foldl max n)))
    | _ => none
  | ds => fMax1 ds
def fMin1X : List D → Option Rs
  | [.tuple xs] => match intsOf xs with
    | some (n :: ns) => some (.pu (.int (ns.foldl min n)))
    | _ => none
  | ds => fMin1 ds
section
variable {K : PySem.W.Frag}
theorem tups_arg {Z H : Hp} {vs : List V} {xs : List D} {ns : List Int} (e : Same Z H) (r : Paired (Rdb K Z H) vs [.tuple xs]) (h : intsOf xs = some ns) : ∃ a, vs = [.ref a] ∧ SqT K H a (ns.map V.int) := by
  obtain ⟨v, rfl, r1⟩ := Paired.one r
  obtain ⟨b, ws, rfl, hb, rb, _⟩ := r1.tup e
  rw [intsOf_eq h] at rb
  rw [rb.of_ints] at hb
  exact ⟨b, rfl, SqT.of hb⟩
theorem callS_max1X : CallS K (fun x H Q => rMax K x H Q ∨ rMaxT K x H Q) fMax1X := by
  intro vs ds R Z H Q e r hf k
  unfold fMax1X at hf
  split at hf
  · split at hf
    · rename_i n ns q
      cases hf
      obtain ⟨a, rfl, ha⟩ := tups_arg e r q
      exact .inr ⟨a, n, ns, rfl, ha, k _ Z H (.refl e) (.int _)⟩
    · cases hf
  · exact .inl (callS_max1 vs _ R Z H Q e r hf k)
theorem callS_min1X : CallS K (fun x H Q => rMin K x H Q ∨ rMinT K x H Q) fMin1X := by
  intro vs ds R Z H Q e r hf k
  unfold fMin1X at hf
  split at hf
  · split at hf
    · rename_i n ns q
      cases hf
      obtain ⟨a, rfl, ha⟩ := tups_arg e r q
      exact .inr ⟨a, n, ns, rfl, ha, k _ Z H (.refl e) (.int _)⟩
    · cases hf
  · exact .inl (callS_min1 vs _ R Z H Q e r hf k)
end
section
variable {X : Cx} {G : Gm} {B : Wish} {p pos : Pos} {e : Expr} {es : List Expr} {oas : O (List Va)} {k : Nat}
theorem zb_max1X (hr : Room k X.A) (hc : X.calm = true) (hg : Gl X "max") (hm : X.mg "max" = none) (ha : AD X G B (e :: es) oas) (he : starEach (e :: es) X.env = (false, eval e X.env) :: starEach es X.env := by rfl) (hpl : (backTo pos (starEach es X.env)).any (·.1) = false := by rfl) : RD X G B (.Call (.Name "max" p) (e :: es) [] pos) (oCB fMax1X oas) :=
  rd_callB (CallR.or (cr_max hc) (cr_maxT hc hr.units)) callS_max1X hg hm boot_max ha (by decide) (by decide) he hpl
theorem zb_min1X (hr : Room k X.A) (hc : X.calm = true) (hg : Gl X "min") (hm : X.mg "min" = none) (ha : AD X G B (e :: es) oas) (he : starEach (e :: es) X.env = (false, eval e X.env) :: starEach es X.env := by rfl) (hpl : (backTo pos (starEach es X.env)).any (·.1) = false := by rfl) : RD X G B (.Call (.Name "min" p) (e :: es) [] pos) (oCB fMin1X oas) :=
  rd_callB (CallR.or (cr_min hc) (cr_minT hc hr.units)) callS_min1X hg hm boot_min ha (by decide) (by decide) he hpl
end
@[simp] theorem f_max1T (n : Int) (ns : List Int) : fMax1X [.tuple ((n :: ns).map PyData.int)] = some (.pu (.int (ns.foldl max n))) := by
  show (match intsOf ((n :: ns).map PyData.int) with | some (n :: ns) => some (Rs.pu (.int (ns.foldl max n))) | _ => none) = _
  rw [intsOf_map]
@[simp] theorem f_min1T (n : Int) (ns : List Int) : fMin1X [.tuple ((n :: ns).map PyData.int)] = some (.pu (.int (ns.foldl min n))) := by
  show (match intsOf ((n :: ns).map PyData.int) with | some (n :: ns) => some (Rs.pu (.int (ns.foldl min n))) | _ => none) = _
  rw [intsOf_map]
end Ow
namespace Ow
open PySem PySem.Spec PyProof.Rows L2
/-! ### a tuple once, or many times -/
theorem tup_mul1 (l : Addr) (items : Array Value) (n : Nat) (dd : Option Addr) (sl : Array (Option Value)) (u : Tok) :
    Meets (Builtin.«tuple.__mul__» ⟨[.ref l, .int 1 u], []⟩) (fun _ R s => s.heap.get? l = some { cls := .type "tuple", dict := dd, data := .seq items n, slots := sl } ∧ R (.ok (.ret (Value.ref l))) s) :=
  .of_wp fun prog w A R s h => by
    obtain ⟨hp, g, d, tk, os⟩ := s
    obtain ⟨hl, h⟩ := h
    have f1 := AutoSeq1.idx_int
    have c0 : (decide ((1 : Int) < -(2 ^ 63)) || decide ((1 : Int) ≥ 2 ^ 63)) = false := by decide
    have c1 : (items.isEmpty || (1 : Int) == 1) = true := by rw [show ((1 : Int) == 1) = true from rfl, Bool.or_true]
    wp_walk using wpAny_loadPart' hl
    repeat (first
      | (refine wpAny_ite_false (decide_eq_false (by rw [c0]; exact Bool.false_ne_true)) ?_; wp_walk using wpAny_loadPart' hl)
      | (refine wpAny_ite_true (decide_eq_true c1) ?_; wp_walk using wpAny_loadPart' hl))
    exact ⟨_, rfl, h⟩
abbrev rRep1 (K : PySem.W.Frag) : R2 := fun x y H Q => ∃ l xs, x = V.ref l ∧ y = V.int 1 ∧ SqT K H l xs ∧ Q (V.ref l) H
theorem op_rep1 {X : Cx} : OpR X (binaryOp .Mult) (rRep1 X.K) := by
  intro pins s σ H x y v u Q I rx ry h
  obtain ⟨l, xs, rfl, rfl, hT, q⟩ := h
  cases rx
  obtain ⟨t, rfl⟩ := ry
  obtain ⟨its, r, ⟨⟨cls, dd, data, sl⟩, ho, hc, n, hd⟩, hs⟩ := I.tuple hT
  simp only at hc hd
  subst hc hd
  exact wpAny_binaryOp_repeat_ref (T := "tuple") (U := "int") (by decide) ⟨_, ho, rfl⟩ (fun s' => typeIs_int s' 1 t) noFill_tuple_mul F.fills_int_mul F.slot_int_rmul repeat_tuple F.slot_int_index.lookup
    (call_meets F.slot_int_rmul (typeIs_int s 1 t) F.entry_int_rmul (F.args_int_rmul_2 _ _) (int_rmul_tuple 1 t l its.toArray n dd sl)
      ⟨ho, rfl, ⟨_, ho, rfl⟩, call_meets F.slot_tuple_mul ⟨_, ho, rfl⟩ F.entry_tuple_mul (F.args_tuple_mul_2 _ _) (tup_mul1 l its.toArray n dd sl t) ⟨ho, ⟨.ref l, H, I, rfl, q⟩⟩⟩)
def fMulY : D → D → Option Rs
  | .tuple xs, .int k => if k = 1 then some (.pu (.tuple xs)) else if xs ≠ [] ∧ 2 ≤ k ∧ k.natAbs ≤ 1000 ∧ xs.length ≤ 1000 then some (.pu (.tuple (List.replicate k.toNat xs).flatten)) else none
  | a, b => fMulX a b
theorem rp_rep {K : PySem.W.Frag} {Z : Hp} {vs : List V} {ds : List D} (r : RpAll K Z vs ds) (n : Nat) : RpAll K Z (List.replicate n vs).flatten (List.replicate n ds).flatten := by
  induction n with
  | zero => exact .nil
  | succ m ih => rw [List.replicate_succ, List.replicate_succ, List.flatten_cons, List.flatten_cons]; exact r.append ih
theorem binS_mulY {K : PySem.W.Frag} : BinS K (fun x y H Q => rRep1 K x y H Q ∨ (fun x y H Q => rRepT K x y H Q ∨ (fun x y H Q => rMulS x y H Q ∨ rMulAll x y H Q) x y H Q) x y H Q) fMulY := by
  intro x y dx dy R Z H Q e rx ry hf k
  unfold fMulY at hf
  split at hf
  · rename_i ds n
    obtain ⟨b, vs, rfl, hb, rb, qb⟩ := rx.tup e
    split at hf
    · rename_i h1
      subst h1
      cases hf
      exact .inl ⟨b, vs, rfl, ry.int, SqT.of hb, k _ Z H (.refl e) qb⟩
    · split at hf
      · rename_i h1 h2
        cases hf
        have hl := rb.length
        have hne : vs ≠ [] := fun q => h2.1 (by rw [q] at hl; exact List.eq_nil_of_length_eq_zero hl.symm)
        refine .inr (.inl ⟨b, n, vs, rfl, ry.int, SqT.of hb, hne, h2.2.1, by omega, by rw [hl]; exact h2.2.2.2, fun p hp => ?_⟩)
        have g := Grow.still e hp (.tup (List.replicate n.toNat vs).flatten)
        exact k _ _ _ g (.tup upd_same (RpAll.mono (rp_rep rb n.toNat) g.z))
      · cases hf
  · exact .inr (.inr (binS_mulX x y _ _ R Z H Q e rx ry hf k))
section
variable {X : Cx} {G : Gm} {B : Wish} {a b : Expr} {pos : Pos} {oa ob : O Va}
theorem rd_mulY (ha : ED X G B a oa) (hb : ED X G B b ob) : RD X G B (.BinOp a .Mult b pos) (oBin fMulY oa ob) := rd_bin (op_rep1.or (op_repT.or (op_mulS.or op_mulAll))) binS_mulY ha hb
end
@[simp] theorem fy_t (xs : List D) (k : Int) : fMulY (.tuple xs) (.int k) = if k = 1 then some (.pu (.tuple xs)) else if xs ≠ [] ∧ 2 ≤ k ∧ k.natAbs ≤ 1000 ∧ xs.length ≤ 1000 then some (.pu (.tuple (List.replicate k.toNat xs).flatten)) else none := rfl
@[simp] theorem fy_i (i j : Int) : fMulY (.int i) (.int j) = fMulX (.int i) (.int j) := rfl
@[simp] theorem fy_s (x : Str) (j : Int) : fMulY (.str x) (.int j) = fMulX (.str x) (.int j) := rfl
@[simp] theorem fy_l (xs : List D) (j : Int) : fMulY (.list xs) (.int j) = fMulX (.list xs) (.int j) := rfl
end Ow
namespace Ow
open PySem PySem.W PySem.Spec PyProof.Rows L2
/-! ### max with default= -/
def maxDef : List Int → Int → Int
  | [], d => d
  | n :: ns, _ => ns.foldl max n
def rMaxDef (K : PySem.W.Frag) : List V → List V → Hp → VK → Prop := fun vs zs H Q => ∃ (a : Addr) (ns : List Int) (d : Int), vs = [V.ref a] ∧ zs = [V.int d] ∧ SqL K H a (ns.map V.int) ∧ Q (.int (maxDef ns d)) H
theorem cr_maxDef {X : Cx} (hc : X.calm = true) (hu : X.A.units + 64 < cLine) : CallRK X (.builtin "max") [Str.ofString "default"] (rMaxDef X.K) := by
  intro pins s σ H vs zs us ws Q I r rz h
  obtain ⟨a, ns, d, rfl, rfl, hs, q⟩ := h
  obtain ⟨its, rv, hl, _⟩ := I.list hs
  rw [Vals.ref1 r]
  obtain ⟨w1, rfl, e1⟩ := vals1 rz
  obtain ⟨t, rfl⟩ := e1
  have rd : ReadsAll s.heap its.toArray.toList (ns.map PyData.int) [] := reads_ints (ns := ns) rv
  refine max_list_default (d := .int d t) (I.ok.hd hc) hl.isList rd (alikeInts ns) (by
    have e := depth_ints ns
    show X.A.units + 1 + PyData.depthAll (ns.map PyData.int) < cLine
    rw [e]; omega) (fun h0 h' tk hk => ?_) fun y ys i v h' tk bs he hv hr hk => ?_
  · cases ns with
    | nil => exact ⟨.int d, H, I.kept hk, ⟨t, rfl⟩, q⟩
    | cons n ns => cases h0
  · cases ns with
    | nil => cases he
    | cons n ns =>
      cases he
      rw [maxD_ints] at hr
      cases hr
      exact ⟨.int _, H, I.kept hk, ⟨_, rfl⟩, q⟩
def mxd1 (as : List Va) (d : D) (ρ : Rho) : M Rs := match rdVs ρ as, d with
  | some [.list xs], .int k => match intsOf xs with
    | some ns => .ok (.pu (.int (maxDef ns k))) ρ
    | none => .st
  | _, _ => .st
def oMaxD (oas : O (List Va)) (od : O D) : O Rs := fun ρ => (oas ρ).bind fun as ρ1 => (od ρ1).bind fun d ρ2 => mxd1 as d ρ2
section
variable {X : Cx} {G : Gm} {B : Wish} {p pos kpos : Pos} {e e2 : Expr} {oas : O (List Va)} {od : O D} {oe : O Va} {k : Nat}
theorem zb_maxDef (hr : Room k X.A) (hc : X.calm = true) (hg : Gl X "max") (hm : X.mg "max" = none) (ha : AD X G B [e] oas) (hd : PD X G B e2 od)
    (he : backTo pos (starEach [e] X.env) = (false, eval e X.env) :: backTo pos (starEach [] X.env) := by rfl) (hpl : (backTo pos (starEach [e] X.env)).any (·.1) = false := by rfl)
    (hall : (backToKw pos (keywordEach [⟨some (Str.ofString "default"), e2, kpos⟩] X.env)).all (·.1.isSome) = true := by rfl) (hnone : (backToKw pos (keywordEach [⟨some (Str.ofString "default"), e2, kpos⟩] X.env)).any (·.1.isNone) = false := by rfl)
    (hks : (backToKw pos (keywordEach [⟨some (Str.ofString "default"), e2, kpos⟩] X.env)).filterMap (·.1) = [Str.ofString "default"] := by rfl) : RD X G B (.Call (.Name "max" p) [e] [⟨some (Str.ofString "default"), e2, kpos⟩] pos) (oMaxD oas od) :=
  pe_imp (pe_callBK (cr_maxDef hc hr.units) hg hm boot_max ha (pk_cons hd pk_nil) (by decide) (by decide) he hpl hall hnone hks) fun σ H Q w => by
    obtain ⟨Z, ρ, S, p⟩ := w
    refine ⟨Z, ρ, S, Post.bind p fun vs as ρ1 Z1 H1 e1 S1 r1 p1 => ?_⟩
    refine ⟨Z1, ρ1, S1, Post.bind p1 fun z d ρ2 Z2 H2 e2 S2 r2 p2 => ?_⟩
    unfold mxd1 at p2
    split at p2
    · rename_i xs k' hx
      split at p2
      · rename_i ns hns
        have r1' : VasR X.K Z2 ρ2 σ H2 vs as := Paired.mapP r1 fun _ _ h => h.mono e2
        obtain ⟨a, rfl, ha⟩ := ints_arg S2.zh (S2.rdbs r1' hx) hns
        have r2' : Rp X.K Z2 z (.int k') := r2
        cases r2'
        exact ⟨a, ns, k', rfl, rfl, ha, p2.fin S2 (.refl S2.zh) (.int _)⟩
      · exact p2.elim
    · exact p2.elim
end
/-! ### index, of ints -/
def fIndex : D → List D → Option Rs
  | .list xs, [.int k] => match intsOf xs with
    | some ns => if k ∈ ns then some (.pu (.int ((ns.idxOf k : Nat) : Int))) else none
    | none => none
  | _, _ => none
theorem idxOf_spec {k : Int} : ∀ {ns : List Int}, k ∈ ns → ns[ns.idxOf k]? = some k ∧ ∀ m z, m < ns.idxOf k → ns[m]? = some z → z ≠ k
  | [], h => by cases h
  | n :: ns, h => by
    by_cases q : n = k
    · subst q
      rw [List.idxOf_cons_self]
      exact ⟨rfl, fun m z hm => absurd hm (Nat.not_lt_zero _)⟩
    · have hk : k ∈ ns := (List.mem_cons.mp h).resolve_left fun e => q e.symm
      obtain ⟨h1, h2⟩ := idxOf_spec hk
      have e : (n :: ns).idxOf k = ns.idxOf k + 1 := by unfold List.idxOf; rw [List.findIdx_cons]; have e0 : (n == k) = false := beq_eq_false_iff_ne.mpr q; rw [e0]; rfl
      rw [e]
      refine ⟨h1, fun m z hm hz => ?_⟩
      cases m with
      | zero => cases hz; exact q
      | succ m => exact h2 m z (Nat.lt_of_succ_lt_succ hm) hz
theorem metS_index {K : PySem.W.Frag} : MetS K (rIndex K) fIndex := by
  intro x d vs ds R Z H Q e rx rxs hf k
  unfold fIndex at hf
  split at hf
  · rename_i xs i
    split at hf
    · rename_i ns hns
      split at hf
      · rename_i hi
        cases hf
        obtain ⟨b, ws, rfl, hb, rb⟩ := rx.list e
        rw [intsOf_eq hns] at rb
        rw [rb.of_ints] at hb
        obtain ⟨v, rfl, r1⟩ := Paired.one rxs
        obtain ⟨h1, h2⟩ := idxOf_spec hi
        refine ⟨b, ns.map V.int, .int i, ns.idxOf i, .int i, rfl, by rw [r1.int], SqL.of hb, rfl, ?_, by rw [List.getElem?_map, h1]; rfl, by show (i == i) = true; exact beq_self_eq_true i, fun m z' hm hz => ?_, k _ Z H (.refl e) (.int _)⟩
        · rw [List.all_eq_true]
          intro v hv
          obtain ⟨n, _, rfl⟩ := List.mem_map.mp hv
          rfl
        · rw [List.getElem?_map] at hz
          cases hq : ns[m]? with
          | none => rw [hq] at hz; cases hz
          | some n =>
            rw [hq] at hz
            cases hz
            show (n == i) = false
            exact beq_eq_false_iff_ne.mpr (h2 m n hm hq)
      · cases hf
    · cases hf
  · cases hf
section
variable {X : Cx} {G : Gm} {B : Wish} {apos cpos pos p1 p2 p3 p q : Pos} {e o a b : Expr} {es : List Expr} {oo oe : O Va} {oas : O (List Va)} {k : Nat} {oa ob : O D}
theorem zm_index (ho : ED X G B o oo) (ha : AD X G B (e :: es) oas)
    (hbase : attributeBase o "index" X.env (eval o X.env) = eval o X.env := by rfl)
    (hfew : ((backTo cpos (starEach (e :: es) X.env)).all (fun x => !x.1) && (backToKw cpos (keywordEach [] X.env)).all (fun x => x.1.isSome)
      && decide ((e :: es).length + ([] : List Keyword).length + (if ([] : List Keyword).isEmpty then 0 else 1) < 30)) = true := by rfl)
    (hline : (apos.endLine == cpos.line) = true := by rfl) (hs : starEach (e :: es) X.env = (false, eval e X.env) :: starEach es X.env := by rfl) (hplain : (backTo cpos (starEach es X.env)).any (·.1) = false := by rfl) :
    RD X G B (.Call (.Attribute o "index" apos) (e :: es) [] cpos) (oBM "list" fIndex oo oas) :=
  rd_bm F.plainAttrs_list F.slot_list_index F.type_list_index mt_index metS_index ho ha hbase hfew hline hs hplain
/-! ### a list turned about -/
def rev1 (a : Va) (ρ : Rho) : M Rs := match rdV ρ a with
  | some (.list ds) => .ok (.nw (.li ds.reverse)) ρ
  | _ => .st
def oRev (o : O Va) : O Rs := fun ρ => (o ρ).bind rev1
theorem rd_rev (he : ED X G B e oe) : RD X G B (.Subscript e (.Slice none none (some (.UnaryOp .USub (.Constant (.int 1) k p1) p2)) p3) pos) (oRev oe) :=
  pe_imp (pe_revL he) fun σ H Q w => run_imp w fun x va ρ1 Z1 H1 S1 r1 p1 => by
    unfold rev1 at p1
    split at p1
    · rename_i ds hd
      obtain ⟨b, vs, rfl, hb, rb⟩ := (S1.rdb r1 hd).list S1.zh
      exact ⟨b, vs, rfl, SqL.of hb, fun q hq => p1.fin S1 (.loose S1.zh hq _) ⟨q, _, rfl, hq, none_of_same S1.zh hq, upd_same, rb.reverse⟩⟩
    · exact p1.elim
/-! ### list(range(..)) -/
theorem rp_rg {K : PySem.W.Frag} {Z : Hp} (i : Int) (n : Nat) : RpAll K Z ((List.range n).map fun k => V.int (i + (k : Nat))) (rangeD i n) := by
  unfold rangeD
  have : ∀ l : List Nat, RpAll K Z (l.map fun k => V.int (i + (k : Nat))) (l.map fun k => PyData.int (i + (k : Nat))) := fun l => by
    induction l with
    | nil => exact .nil
    | cons m l ih => exact .cons (.int _) ih
  exact this _
def lrg1 (d : D) (ρ : Rho) : M Rs := match d with
  | .int j => if j.natAbs ≤ 16000000 then .ok (.nw (.li (rangeD 0 j.toNat))) ρ else .st
  | _ => .st
def lrg2 (d d2 : D) (ρ : Rho) : M Rs := match d, d2 with
  | .int i, .int j => if i.natAbs ≤ 8000000 ∧ j.natAbs ≤ 8000000 then .ok (.nw (.li (rangeD i (j - i).toNat))) ρ else .st
  | _, _ => .st
def oLrg1 (o : O D) : O Rs := fun ρ => (o ρ).bind lrg1
def oLrg2 (o o2 : O D) : O Rs := fun ρ => (o ρ).bind fun d ρ1 => (o2 ρ1).bind fun d2 ρ2 => lrg2 d d2 ρ2
theorem rd_lrg1 (hc : X.calm = true) (hg : Gl X "list") (hm : X.mg "list" = none) (hg2 : Gl X "range") (hm2 : X.mg "range" = none) (ha : PD X G B a oa) (na : starEach [a] X.env = (false, eval a X.env) :: starEach [] X.env := by rfl)
    (ne : starEach [.Call (.Name "range" q) [a] [] p1] X.env = (false, eval (.Call (.Name "range" q) [a] [] p1) X.env) :: starEach [] X.env := by rfl) : RD X G B (.Call (.Name "list" p) [.Call (.Name "range" q) [a] [] p1] [] pos) (oLrg1 oa) :=
  pe_imp (pe_listRg hc hg hm (prg_1 hg2 hm2 ha na) ne) fun σ H Q w => run_imp w fun x d ρ1 Z1 H1 S1 r1 p1 => by
    unfold lrg1 at p1
    split at p1
    · rename_i j
      split at p1
      · rename_i hj
        have r1' : Rp X.K Z1 x (.int j) := r1
        cases r1'
        refine ⟨j, rfl, ⟨by omega, by omega, by omega, by omega, by omega⟩, fun q hq => p1.fin S1 (.loose S1.zh hq _) ⟨q, _, rfl, hq, none_of_same S1.zh hq, upd_same, ?_⟩⟩
        have h := rp_rg (K := X.K) (Z := Z1) 0 j.toNat
        show RpAll X.K Z1 (rgV 0 j) (rangeD 0 j.toNat)
        unfold rgV
        rw [Int.sub_zero]
        exact h
      · exact p1.elim
    · exact p1.elim
theorem rd_lrg2 (hc : X.calm = true) (hg : Gl X "list") (hm : X.mg "list" = none) (hg2 : Gl X "range") (hm2 : X.mg "range" = none) (ha : PD X G B a oa) (hb : PD X G B b ob)
    (na : starEach [a, b] X.env = (false, eval a X.env) :: starEach [b] X.env := by rfl) (nb : starEach [b] X.env = (false, eval b X.env) :: starEach [] X.env := by rfl) (hp : (backTo p1 (starEach [b] X.env)).any (·.1) = false := by rfl)
    (ne : starEach [.Call (.Name "range" q) [a, b] [] p1] X.env = (false, eval (.Call (.Name "range" q) [a, b] [] p1) X.env) :: starEach [] X.env := by rfl) :
    RD X G B (.Call (.Name "list" p) [.Call (.Name "range" q) [a, b] [] p1] [] pos) (oLrg2 oa ob) :=
  pe_imp (pe_listRg hc hg hm (prg_2 hg2 hm2 ha hb na nb hp) ne) fun σ H Q w => run_imp w fun x d ρ1 Z1 H1 S1 r1 p1 => ⟨Z1, ρ1, S1, Post.bind p1 fun y d2 ρ2 Z2 H2 e2 S2 r2 p2 => by
    unfold lrg2 at p2
    split at p2
    · rename_i i j
      split at p2
      · rename_i hj
        have r1' : Rp X.K Z1 x (.int i) := r1
        have r2' : Rp X.K Z2 y (.int j) := r2
        cases r1'
        cases r2'
        refine ⟨i, j, rfl, rfl, ⟨by omega, by omega, by omega, by omega, by omega⟩, fun q hq => p2.fin S2 (.loose S2.zh hq _) ⟨q, _, rfl, hq, none_of_same S2.zh hq, upd_same, rp_rg i (j - i).toNat⟩⟩
      · exact p2.elim
    · exact p2.elim⟩
end
section
variable (z : Sl) (ρ : Rho)
@[simp] theorem ap_maxD (oas : O (List Va)) (od : O D) : oMaxD oas od (z :: ρ) = (oas (z :: ρ)).bind fun as ρ1 => (od ρ1).bind fun d ρ2 => mxd1 as d ρ2 := rfl
@[simp] theorem ap_rev (o : O Va) : oRev o (z :: ρ) = (o (z :: ρ)).bind rev1 := rfl
@[simp] theorem ap_lrg1 (o : O D) : oLrg1 o (z :: ρ) = (o (z :: ρ)).bind lrg1 := rfl
@[simp] theorem ap_lrg2 (o o2 : O D) : oLrg2 o o2 (z :: ρ) = (o (z :: ρ)).bind fun d ρ1 => (o2 ρ1).bind fun d2 ρ2 => lrg2 d d2 ρ2 := rfl
@[simp] theorem rev1_eq (a : Va) : rev1 a ρ = match rdV ρ a with | some (.list ds) => .ok (.nw (.li ds.reverse)) ρ | _ => .st := rfl
@[simp] theorem lrg1_eq (j : Int) : lrg1 (.int j) ρ = if j.natAbs ≤ 16000000 then .ok (.nw (.li (rangeD 0 j.toNat))) ρ else .st := rfl
@[simp] theorem lrg2_eq (i j : Int) : lrg2 (.int i) (.int j) ρ = if i.natAbs ≤ 8000000 ∧ j.natAbs ≤ 8000000 then .ok (.nw (.li (rangeD i (j - i).toNat))) ρ else .st := rfl
theorem mxd1_eq (as : List Va) (d : D) : mxd1 as d ρ = match rdVs ρ as, d with
  | some [.list xs], .int k => (match intsOf xs with
    | some ns => .ok (.pu (.int (maxDef ns k))) ρ
    | none => .st)
  | _, _ => .st := rfl
theorem lrg1_nat {n : Nat} (h : n ≤ 16000000) : lrg1 (.int (n : Int)) ρ = .ok (.nw (.li (rangeD 0 n))) ρ := by
  rw [lrg1_eq, if_pos (by omega)]
  rfl
end
theorem fIndex_eq {ns : List Int} {k : Int} (h : k ∈ ns) : fIndex (.list (ns.map PyData.int)) [.int k] = some (.pu (.int ((ns.idxOf k : Nat) : Int))) := by
  show (match intsOf (ns.map PyData.int) with | some ns => if k ∈ ns then some (Rs.pu (.int ((ns.idxOf k : Nat) : Int))) else none | none => none) = _
  rw [intsOf_map]
  exact if_pos h
end Ow
namespace Ow
open PySem PySem.W PySem.Spec PyProof.Rows L2
theorem wbp : ∀ (ds : List D) (o : List Sl) (ρ : Rho), wb (ds.map Va.pu) o ρ = ρ
  | [], o, ρ => by rw [List.map_nil, wb_nil]
  | d :: ds, [], ρ => rfl
  | d :: ds, a :: o, ρ => by rw [List.map_cons, wb_pu, wbp ds o ρ]
section
variable (ρ : Rho) (a b c d e f g : D) (o : List Sl)
theorem wb1 : wb [.pu a] o ρ = ρ := wbp [a] o ρ
theorem wb2 : wb [.pu a, .pu b] o ρ = ρ := wbp [a, b] o ρ
theorem wb3 : wb [.pu a, .pu b, .pu c] o ρ = ρ := wbp [a, b, c] o ρ
theorem wb4 : wb [.pu a, .pu b, .pu c, .pu d] o ρ = ρ := wbp [a, b, c, d] o ρ
theorem wb5 : wb [.pu a, .pu b, .pu c, .pu d, .pu e] o ρ = ρ := wbp [a, b, c, d, e] o ρ
theorem wb6 : wb [.pu a, .pu b, .pu c, .pu d, .pu e, .pu f] o ρ = ρ := wbp [a, b, c, d, e, f] o ρ
theorem wb7 : wb [.pu a, .pu b, .pu c, .pu d, .pu e, .pu f, .pu g] o ρ = ρ := wbp [a, b, c, d, e, f, g] o ρ
end
theorem max1_eq (n : Int) (ns : List Int) : fMax1X [.list ((n :: ns).map PyData.int)] = some (.pu (.int (maxI (n :: ns)))) := by
  show (match intsOf ((n :: ns).map PyData.int) with | some (n :: ns) => some (Rs.pu (.int (maxI (n :: ns)))) | _ => none) = _
  rw [intsOf_map]
theorem maxI_cons (x y : Int) (r : List Int) : maxI (x :: y :: r) = if maxI (y :: r) > x then maxI (y :: r) else x := rfl
theorem maxI_one (x : Int) : maxI [x] = x := rfl
theorem maxI_is {ns : List Int} {m : Int} (h : m ∈ ns) (hle : ∀ y ∈ ns, y ≤ m) : maxI ns = m := by
  have h1 := maxI_ge m h
  have h2 := hle _ (maxI_mem (ns := ns) (by intro e; rw [e] at h; cases h))
  omega
theorem foldl_max_ge : ∀ (ns : List Int) (a : Int), a ≤ ns.foldl max a ∧ ∀ y ∈ ns, y ≤ ns.foldl max a
  | [], a => ⟨Int.le_refl _, fun y h => by cases h⟩
  | n :: ns, a => by
    obtain ⟨h1, h2⟩ := foldl_max_ge ns (max a n)
    rw [List.foldl_cons]
    refine ⟨by omega, fun y hy => ?_⟩
    rcases List.mem_cons.mp hy with rfl | hy
    · omega
    · exact h2 y hy
theorem foldl_max_mem : ∀ (ns : List Int) (a : Int), ns.foldl max a = a ∨ ns.foldl max a ∈ ns
  | [], a => .inl rfl
  | n :: ns, a => by
    rw [List.foldl_cons]
    rcases foldl_max_mem ns (max a n) with h | h
    · rw [h]
      rcases Int.le_total a n with q | q
      · rw [Int.max_eq_right q]; exact .inr List.mem_cons_self
      · rw [Int.max_eq_left q]; exact .inl rfl
    · exact .inr (List.mem_cons_of_mem _ h)
theorem maxI_foldl (n : Int) (ns : List Int) : maxI (n :: ns) = ns.foldl max n := by
  obtain ⟨h1, h2⟩ := foldl_max_ge ns n
  refine maxI_is ?_ fun y hy => ?_
  · rcases foldl_max_mem ns n with h | h
    · rw [h]; exact List.mem_cons_self
    · exact List.mem_cons_of_mem _ h
  · rcases List.mem_cons.mp hy with rfl | hy
    · exact h1
    · exact h2 y hy
/-- an item of a mapped list, at a place -/
theorem at_m {α : Type} (f : α → D) {xs : List α} {k : Nat} {x : α} (h : xs[k]? = some x) : L2.atI (xs.map f) ((k : Nat) : Int) = some (f x) := by
  rw [atI_cast, List.getElem?_map, h]
  rfl
theorem at_mi {α : Type} (f : α → D) {xs : List α} {i : Int} {x : α} (h0 : 0 ≤ i) (h : xs[i.toNat]? = some x) : L2.atI (xs.map f) i = some (f x) := by
  rw [atI_nn h0, List.getElem?_map, h]
  rfl
theorem range_len (n : Nat) : (rangeD 0 n).length = n := rangeD_length 0 n
/-- what a plain program does, read off -/
theorem erase_perm {α : Type} : ∀ {xs : List α} {i : Nat} (h : i < xs.length), (xs[i] :: xs.eraseIdx i).Perm xs
  | x :: xs, 0, _ => .refl _
  | x :: xs, i + 1, h => by
    have ih := erase_perm (xs := xs) (i := i) (Nat.lt_of_succ_lt_succ h)
    rw [List.eraseIdx_cons_succ, List.getElem_cons_succ]
    exact (List.Perm.swap x _ _).trans (List.Perm.cons x ih)
/-- a comprehension whose items go with those of another list -/
theorem lcL_inv2 {α : Type} {vs : List Nat} {g : D → Rho → Option Rho} {oe : O D} {k : α → D} {P : α → D → Prop} (I : Rho → Prop) : ∀ {l : List α} {ρ : Rho},
    (∀ a ∈ l, ∀ ρ, I ρ → ∃ y ρ1 ρ3, g (k a) ρ = some ρ1 ∧ oe ρ1 = .ok y ρ3 ∧ P a y ∧ I (wipeR ρ3 vs)) → I ρ → ∃ ys ρ', lcL vs g oYes oe (l.map k) ρ = .ok ys ρ' ∧ I ρ' ∧ Paired P l ys
  | [], ρ, _, hi => ⟨[], ρ, rfl, hi, .nil⟩
  | d :: ds, ρ, h, hi => by
    obtain ⟨y, ρ1, ρ3, h1, h2, h3, h4⟩ := h d List.mem_cons_self ρ hi
    obtain ⟨ys, ρ', h5, h6, h7⟩ := lcL_inv2 I (l := ds) (fun d hd => h d (List.mem_cons_of_mem _ hd)) h4
    refine ⟨y :: ys, ρ', ?_, h6, .cons h3 h7⟩
    rw [List.map_cons, lcL_cons, h1]
    dsimp only
    rw [oYes_eq]
    dsimp only
    rw [h2]
    dsimp only
    rw [h5, M.bind_ok]
theorem ex_map {α : Type} {f : α → D} {Q : α → Prop} : ∀ {ys : List D}, (∀ y ∈ ys, ∃ x, y = f x ∧ Q x) → ∃ xs : List α, ys = xs.map f ∧ ∀ x ∈ xs, Q x
  | [], _ => ⟨[], rfl, fun x h => by cases h⟩
  | y :: ys, h => by
    obtain ⟨x, rfl, hx⟩ := h y List.mem_cons_self
    obtain ⟨xs, rfl, hxs⟩ := ex_map (ys := ys) fun z hz => h z (List.mem_cons_of_mem _ hz)
    refine ⟨x :: xs, rfl, fun z hz => ?_⟩
    rcases List.mem_cons.mp hz with rfl | hz
    · exact hx
    · exact hxs z hz
theorem ex_map2 {α β : Type} {f : β → D} {Q : α → β → Prop} : ∀ {l : List α} {ys : List D}, Paired (fun a y => ∃ x, y = f x ∧ Q a x) l ys → ∃ xs : List β, ys = xs.map f ∧ Paired Q l xs
  | [], _, .nil => ⟨[], rfl, .nil⟩
  | a :: l, _, .cons h r => by
    obtain ⟨x, rfl, hx⟩ := h
    obtain ⟨xs, rfl, hxs⟩ := ex_map2 r
    exact ⟨x :: xs, rfl, .cons hx hxs⟩
theorem paired_len {α β : Type} {Q : α → β → Prop} : ∀ {l : List α} {xs : List β}, Paired Q l xs → l.length = xs.length
  | _, _, .nil => rfl
  | _, _, .cons _ h => by rw [List.length_cons, List.length_cons, paired_len h]
theorem len1_rf (i : Nat) (ρ : Rho) : len1 (.rf i) ρ = match ρ[i]? with
  | some (.ow _ (.li ds)) => .ok (.pu (.int ds.length)) ρ
  | some (.ow _ (.dk kvs)) => .ok (.pu (.int kvs.length)) ρ
  | some (.al k j) => (match ρ[k]? with
    | some (.ll (.li xss)) => (match xss[j]? with
      | some xs => .ok (.pu (.int xs.length)) ρ
      | none => .st)
    | _ => .st)
  | _ => .st := by
  unfold len1 rdV
  dsimp only
  cases h : ρ[i]? with
  | none => rfl
  | some s =>
    cases s with
    | ow p c => cases c <;> rfl
    | al k j =>
      dsimp only
      cases ρ[k]? with
      | none => rfl
      | some t =>
        cases t with
        | ll n =>
          cases n with
          | li xss => dsimp only; cases xss[j]? <;> rfl
          | dd _ => rfl
        | _ => rfl
    | _ => rfl
theorem cut_to {α : Type} (xs : List α) {i : Int} (h : 0 ≤ i) : cutD xs none (some i) = xs.take i.toNat := by
  unfold cutD HT.sIx
  dsimp only
  rw [if_neg (by omega), List.drop_zero, Nat.sub_zero, List.take_eq_take_iff]
  omega
theorem cut_from {α : Type} (xs : List α) {i : Int} (h : 0 ≤ i) : cutD xs (some i) none = xs.drop i.toNat := by
  unfold cutD HT.sIx
  dsimp only
  rw [if_neg (by omega)]
  by_cases q : i.toNat ≤ xs.length
  · rw [Nat.min_eq_left q, List.take_of_length_le]
    rw [List.length_drop]
    exact Nat.le_refl _
  · rw [Nat.min_eq_right (by omega), Nat.sub_self, List.take_zero, List.drop_eq_nil_of_le (by omega)]
theorem atI_last {α : Type} (xs : List α) (x : α) : L2.atI (xs ++ [x]) (-1) = some x := by
  unfold L2.atI L2.ixN
  rw [if_neg (by decide), if_pos (by rw [List.length_append]; simp; omega)]
  rw [List.length_append]
  show (xs ++ [x])[_]? = _
  rw [show ((-1 : Int) + ((xs.length + [x].length : Nat) : Int)).toNat = xs.length by simp; omega]
  simp
theorem short_num : ∀ k : Nat, k < 70 → ((toString ((k : Nat) : Int) : String) : Str).length ≤ 10 := by decide +kernel
theorem str_num {k : Nat} (h : k < 70) : ∃ s : Str, s.length ≤ 10 ∧ fStr1 [.int (k : Int)] = some (.pu (.str s)) := by
  refine ⟨_, short_num k h, ?_⟩
  show (if ((k : Nat) : Int).natAbs.log2 < 1920 then _ else none) = _
  rw [if_pos]
  have h1 : ∀ k : Nat, k < 70 → ((k : Nat) : Int).natAbs.log2 < 1920 := by decide +kernel
  exact h1 k h
theorem mul_one {c : Nat} (hc : c ≤ 1000) (d : D) : fMulX (.list [d]) (.int (c : Int)) = some (.nw (.li (List.replicate c d))) := by
  show fMul (.list [d]) (.int (c : Int)) = _
  unfold fMul
  dsimp only
  rw [if_pos ⟨by omega, by simp; omega, by rw [Int.natAbs_natCast]; omega⟩]
  have : ∀ k : Nat, (List.replicate k [d]).flatten = List.replicate k d := fun k => by
    induction k with
    | zero => rfl
    | succ k ih => rw [List.replicate_succ, List.flatten_cons, ih]; rfl
  rw [Int.toNat_natCast, this]
theorem loose_okS {s : Sl} (h : loose (some s) = true) : okS (some s) = true := by
  cases s with
  | ow p c => cases h
  | _ => rfl
end Ow
namespace Ow
open PySem PySem.W PySem.Spec PyProof.Rows L2
open AutoSeq1 (wpAny_loadPart')
/-! ### enumerate of a tuple -/
abbrev etH (h : Heap) (l : Addr) : Heap := h.push { cls := .type "tuple_iterator", data := .fields #[.ref l, .int 0 0] }
abbrev etZ (h : Heap) (l : Addr) : Heap := (etH h l).push { cls := .type "enumerate", data := .fields #[.none, .bool false, .ref h.objs.size, rawInt 0, .none, .none] }
theorem enumT_new (l : Addr) (its : Array Value) (n : Nat) (dd : Option Addr) (sl : Array (Option Value)) :
    Meets (Builtin.«enumerate.__new__» ⟨[.type "enumerate", .ref l], []⟩) (fun _ R s => s.heap.get? l = some { cls := .type "tuple", dict := dd, data := .seq its n, slots := sl } ∧ R (.ok (.ret (.ref (etH s.heap l).objs.size))) { s with heap := etZ s.heap l }) :=
  .of_wp fun prog w A R s k => by
    obtain ⟨hp, g, d, tk, os⟩ := s
    obtain ⟨hl, k⟩ := k
    have es := sub_enumerate
    have tL : Heap.IsTuple (Shared.heap ⟨hp, g, d, tk, os⟩) l its := ⟨_, hl, rfl, n, rfl⟩
    wp_walk using wpAny_loadPart' hl
    refine wpAny_stack_any fun fr => ?_
    refine wpAny_pure ?_
    split
    · rename_i c _ _ _ _ _
      cases (c == Value.type "enumerate") <;> (wp_walk using wpAny_loadPart' hl, wpAny_pyIter_tuple tL) <;> exact ⟨_, rfl, k⟩
    · wp_walk using wpAny_loadPart' hl, wpAny_pyIter_tuple tL
      exact ⟨_, rfl, k⟩
theorem call_enumT {prog : Program} {w : World} {A : Around} {E : Value → Shared → Prop} {s : Shared} {l : Addr} {its : Array Value} {Q : Value → Shared → Prop} (tL : s.heap.IsTuple l its)
    (k : ∀ h', IsEnum h' (s.heap.objs.size + 1) s.heap.objs.size 0 .none → h'.IsTupleIter s.heap.objs.size l 0 → h'.objs.size = s.heap.objs.size + 2 → (∀ b o, s.heap.get? b = some o → h'.get? b = some o) → Q (.ref (s.heap.objs.size + 1)) { s with heap := h' }) :
    wpAny (model prog w) A (call (.type "enumerate") [.ref l]) Q E s := by
  obtain ⟨⟨c, dd, dt, sl⟩, hl, hc, n, hd⟩ := tL
  simp only at hc hd
  subst hc hd
  have zz : (etH s.heap l).objs.size = s.heap.objs.size + 1 := Heap.size_push ..
  have ee : IsEnum (etZ s.heap l) (s.heap.objs.size + 1) s.heap.objs.size 0 .none := by
    have q := Heap.get?_push_size (etH s.heap l) (o := { cls := .type "enumerate", data := .fields #[.none, .bool false, .ref s.heap.objs.size, rawInt 0, .none, .none] }) rfl
    rw [zz] at q
    exact q
  refine callType_new F.called_enumerate (by decide) (F.typeCall_enumerate_1 _) (F.newCall_enumerate_1 _) (fun o => F.args_object_init_2 o _) F.entry_enumerate_new (enumT_new l its n dd sl) ⟨hl, ?_⟩
  show _ ∧ _
  rw [zz]
  exact ⟨⟨_, ee, rfl⟩, k _ ee ⟨_, Heap.get?_push_of_some _ (Heap.get?_push_size _ rfl), rfl, rfl⟩ (by rw [Heap.size_push, zz]) fun b o x => Heap.get?_push_of_some _ (Heap.get?_push_of_some _ x)⟩
def IteT (K : PySem.W.Frag) (a : Addr) : It :=
  ⟨fun i H => ∃ (xs : List V) (x : V), SqT K H a xs ∧ xs[i]? = some x, fun i H v H' => ∃ T x, v = .ref T ∧ H T = none ∧ H' = upd H T (.tup [.int (i : Nat), x]) ∧ ∀ xs, SqT K H a xs → xs[i]? = some x, fun i H => ∃ xs : List V, SqT K H a xs ∧ xs.length ≤ i⟩
theorem turn_enumT {P : Program} {w : World} {K : PySem.W.Frag} {elts : List Expr} {kk : Nat} {tpos : Pos} (a e it : Addr) :
    Turn P w K (.Tuple elts kk tpos) (IteT K a) [e, it] e (fun i h => (∃ old, IsEnum h e it ((i : Nat) : Int) old) ∧ h.IsTupleIter it a i ∧ e ≠ it ∧ a ≠ it ∧ a ≠ e) where
  mem := by simp
  obj := fun i h st b hb => by
    obtain ⟨⟨old, he⟩, ⟨o, ho, hc, hd⟩, _⟩ := st
    rcases (by simpa using hb : b = e ∨ b = it) with rfl | rfl
    · exact ⟨_, he, fun v q => nomatch q⟩
    · exact ⟨o, ho, fun v q => by rw [hd] at q; cases q⟩
  keep := fun i h h' st k => by
    obtain ⟨⟨old, he⟩, hi, h3⟩ := st
    exact ⟨⟨old, k e (by simp) _ he⟩, hi.at fun o q => k it (by simp) o q, h3⟩
  item := by
    intro X hP hw hK hc i pins s σ H E I hf st hg
    subst hP hw hK
    obtain ⟨⟨old, he⟩, hit, hne, hai, hae⟩ := st
    obtain ⟨xs, x, hq, hx⟩ := hg
    obtain ⟨its, rv, p, hz⟩ := I.tuple hq
    obtain ⟨u, hu, ru⟩ := rv.get hx
    have hel := Heap.lt_size he
    have hil : it < s.heap.objs.size := Heap.lt_size hit.choose_spec.1
    have hlt : i < its.toArray.size := by
      rw [List.size_toArray]
      exact (List.getElem?_eq_some_iff.mp hu).1
    refine wpAny_pyNext_enum_itemD (Draws.tuple (A := X.A.in1) (I.ok.hd hc) it a hai its.toArray) he ⟨hit, p⟩ hlt hne (by simp [hne, Ne.symm hae]) fun u2 h' tk hP ho hS hT hsz hk => ?_
    have hu2 : u2 = u := by
      have h1 : its.toArray[i]? = some u := by simpa using hu
      rw [h1] at hP
      exact (Option.some.inj hP).symm
    subst hu2
    refine ⟨_, rfl, wpAny_letOwnedTupleGo_enum (s := { s with heap := h', toks := tk + 1 }) ho fun h'' he' sb => ?_⟩
    have hT2 : h''.get? s.heap.objs.size = some { cls := .type "tuple", data := .seq #[.int i tk, u2] } := (sb.2 _ (Nat.ne_of_gt hel)).trans hT
    have nok : ObjOk X.prog X.w (upd H s.heap.objs.size (.tup [.int (i : Nat), x])) h'' s.heap.objs.size (.tup [.int (i : Nat), x]) := ⟨by show 2 ≤ sizeLine; decide, [.int i tk, u2], .cons ⟨_, rfl⟩ (.cons ru .nil), ⟨_, hT2, rfl, _, rfl⟩⟩
    have I1 : Inv X pins σ (upd H s.heap.objs.size (.tup [.int (i : Nat), x])) { s with heap := h'', toks := tk + 1 } :=
      I.turnedNew (ch := [e, it]) (fun b o1 nb q => (sb.2 b fun z => nb (by simp [z])).trans (hk b o1 (fun z => nb (by simp [z])) (fun z => nb (by simp [z])) q)) hf (Nat.le_refl _) nok
    refine ⟨.ref s.heap.objs.size, _, I1, rfl, ⟨_, x, rfl, I.hok.fresh (Nat.le_refl _), rfl, fun ys hy => by rw [I.tuple_inj hy hq]; exact hx⟩, ⟨⟨u2, ?_⟩, hS.1.at fun o q => (sb.2 it (Ne.symm hne)).trans q, hne, hai, hae⟩, fun b hb => ?_⟩
    · rw [show ((i + 1 : Nat) : Int) = (i : Int) + 1 by omega]
      exact he'
    · have hb' : b < s.heap.objs.size := by
        rcases (by simpa using hb : b = e ∨ b = it) with rfl | rfl
        · exact hel
        · exact hil
      rw [upd_ne (Nat.ne_of_lt hb')]
      exact (hf b hb).1
  done := by
    intro X hP hw hK hc i pins s σ H E I hf st hg
    subst hP hw hK
    obtain ⟨⟨old, he⟩, hit, hne, hai, hae⟩ := st
    obtain ⟨xs, hq, hx⟩ := hg
    obtain ⟨its, rv, p, hz⟩ := I.tuple hq
    obtain ⟨f0, f1, f2, f3, f4, f5⟩ := hf it (by simp)
    have hl := rv.length
    have hT : s.TypeIs (.ref e) "enumerate" := ⟨_, he, rfl⟩
    unfold pyNext
    refine wpAny_bind (wpAny_attempt (wpAny_callSpecial?_slot (name := Str.ofString "__next__") hT F.slot_enumerate_next (wpAny_call_entry F.slot_enumerate_next hT F.entry_enumerate_next ?_ (F.args_enumerate_next_1 _))))
    show wpAny _ _ (field (.ref e) 2 >>= _) _ _ _
    refine wpAny_bind (wpAny_field he rfl (x := .ref it) rfl ?_)
    refine wpAny_bind (wpAny_nextOf_tuple_end (A := X.A.in1) (I.ok.hd hc) hit p (by simp; omega) fun h' y eb hy => ?_)
    obtain ⟨o, ho, hcl⟩ := hy
    refine wpAny_bind (wpAny_isInstance (T := "StopIteration") (b := true) ⟨o, ho, hcl⟩ isSubtype_stop (wpAny_pure ?_))
    exact ⟨rfl, I.turned (t' := s.toks) (fun b o hb q => eb b o hb q) f0 f1 f3 f4 f5⟩
  self := fun A i s Q E st h => let ⟨⟨_, he⟩, _⟩ := st; wpAny_pyIter_enum he h
def iEnumT (K : PySem.W.Frag) (ta : TA) : TI := fun σ H R => ta σ H fun vs H1 => ∃ a xs, vs = [.ref a] ∧ SqT K H1 a xs ∧ R (IteT K a) H1
theorem pi_enumT {X : Cx} {e : Expr} {ta : TA} {p pos tpos : Pos} {elts : List Expr} {kk : Nat} (hg : Gl X "enumerate") (hm : X.mg "enumerate" = none) (ha : PA X [e] ta) (hs : starEach [e] X.env = [(false, eval e X.env)] := by rfl) :
    PI X (.Tuple elts kk tpos) (.Call (.Name "enumerate" p) [e] [] pos) (iEnumT X.K ta) := by
  refine ⟨fun pins s σ H R I h => ?_⟩
  refine Call_ (ld_blt I hg hm boot_enumerate (callWith_type1 (thn (ha.run pos pins s σ H _ I h) fun us s1 w1 => ?_) hs rfl))
  obtain ⟨vs, H1, I1, r1, a, xs, rfl, hq, q⟩ := w1
  cases r1 with
  | cons r rr =>
    cases rr
    cases r
    obtain ⟨its, rv, p', hz⟩ := I1.tuple hq
    have hal : a < s1.heap.objs.size := by obtain ⟨_, q, _⟩ := p'; exact Heap.lt_size q
    refine call_enumT p' fun h' he hit hsz hk => wpAny_pyIter_enum he ?_
    have I2 : Inv X pins σ H1 { s1 with heap := h' } := I1.kept (t' := s1.toks) hk
    refine ⟨s1.heap.objs.size + 1, [s1.heap.objs.size + 1, s1.heap.objs.size], _, _, H1, rfl, I2, turn_enumT a (s1.heap.objs.size + 1) s1.heap.objs.size, ⟨⟨.none, he⟩, hit, Nat.succ_ne_self _, Nat.ne_of_lt hal, Nat.ne_of_lt (Nat.lt_succ_of_lt hal)⟩, fun b hb => ?_, q⟩
    have hle : s1.heap.objs.size ≤ b := by
      rcases (by simpa using hb : b = s1.heap.objs.size + 1 ∨ b = s1.heap.objs.size) with rfl | rfl
      · exact Nat.le_add_right _ _
      · exact Nat.le_refl _
    exact I1.fpOk hle (I1.hok.fresh hle)
theorem walk_enumT {K : PySem.W.Frag} {a : Addr} {xs : List V} : Walk (IteT K a) xs.length (fun H => SqT K H a xs) (YPair (fun i => some (.int (i : Nat))) (fun i => xs[i]?)) := by
  refine ⟨fun i _ hi q => ⟨xs, xs[i], q, by simp [hi]⟩, fun _ q => ⟨xs, q, Nat.le_refl _⟩, fun i H v H' _ q ⟨T, x, h1, h2, h3, h4⟩ => ?_⟩
  exact ⟨T, .int (i : Nat), x, h1, h2, h3, rfl, h4 xs q⟩
theorem walkD_enumT {K : PySem.W.Frag} {Z : Hp} {a : Addr} {vs : List V} {ds : List D} (h : SqT K Z a vs) (r : RpAll K Z vs ds) : WalkD K Z (IteT K a) (enumD 0 ds) :=
  ⟨_, _, by rw [enumD_length, ← r.length]; exact walk_enumT (K := K) (a := a) (xs := vs), fun H e => sqT_mono e h, fun i H x H' Z1 hi e e' y => by
    obtain ⟨T, u, v, rfl, hT, rfl, h1, h2⟩ := y
    cases h1
    obtain ⟨d, hd, rd⟩ := r.get' h2
    obtain ⟨Z', g, r'⟩ := pair_still e' hT (.int (i : Nat)) (rd.mono e)
    refine ⟨_, Z', enumD_get hd, g, ?_⟩
    rw [Nat.zero_add]
    exact r'⟩
def en2 (d : D) (ρ : Rho) : M (List D) := match d with
  | .list ds => .ok (enumD 0 ds) ρ
  | .tuple ds => .ok (enumD 0 ds) ρ
  | _ => .st
def oEnum (o : O D) : O (List D) := fun ρ => (o ρ).bind en2
section
variable {X : Cx} {G : Gm} {B : Wish} {e : Expr} {p pos tpos : Pos} {elts : List Expr} {kk : Nat}
theorem id_enum {o : O D} (hg : Gl X "enumerate") (hm : X.mg "enumerate" = none) (ha : PD X G B e o) (hs : starEach [e] X.env = [(false, eval e X.env)] := by rfl) (hs' : starEach [e] X.env = (false, eval e X.env) :: starEach [] X.env := by rfl) :
    ID X G B (.Tuple elts kk tpos) (.Call (.Name "enumerate" p) [e] [] pos) (oEnum o) := by
  refine pi_imp (pi_alt (pi_enum hg hm (pa_cons ha pa_nil hs') hs) (pi_enumT hg hm (pa_cons ha pa_nil hs') hs)) ?_
  rintro σ H R ⟨Z, ρ, S, w⟩
  have w' : Post X.K G B _ σ Z ((o ρ).bind en2) _ := w
  cases ho : o ρ with
  | st => rw [ho] at w'; exact w'.elim
  | ex x ρ1 => rw [ho] at w'; exact .inl ⟨Z, ρ, S, by rw [ho]; exact w'⟩
  | ok d ρ1 =>
    rw [ho] at w'
    rw [M.bind_ok] at w'
    cases d with
    | list ds =>
      refine .inl ⟨Z, ρ, S, ?_⟩
      rw [ho]
      intro v Z1 H1 e1 S1 r1
      have r1' : Rp X.K Z1 v (.list ds) := r1
      cases r1' with
      | lst a1 a2 => exact ⟨_, _, rfl, SqL.of (S1.zh _ _ a1), w' _ Z1 H1 e1 S1 (walkD_enum (SqL.of a1) a2)⟩
    | tuple ds =>
      refine .inr ⟨Z, ρ, S, ?_⟩
      rw [ho]
      intro v Z1 H1 e1 S1 r1
      have r1' : Rp X.K Z1 v (.tuple ds) := r1
      cases r1' with
      | tup a1 a2 => exact ⟨_, _, rfl, SqT.of (S1.zh _ _ a1), w' _ Z1 H1 e1 S1 (walkD_enumT (SqT.of a1) a2)⟩
    | _ => exact w'.elim
end
section
variable (z : Sl) (ρ : Rho)
@[simp] theorem ap_enum (o : O D) : oEnum o (z :: ρ) = (o (z :: ρ)).bind en2 := rfl
@[simp] theorem en2_l (ds : List D) : en2 (.list ds) ρ = .ok (enumD 0 ds) ρ := rfl
@[simp] theorem en2_t (ds : List D) : en2 (.tuple ds) ρ = .ok (enumD 0 ds) ρ := rfl
end
end Ow
namespace Ow
open PySem L2
/-! ### lists of own lists: at most one slot holds one -/
def cutAl (i : Nat) : Rho → Rho
  | [] => []
  | .al k j :: ρ => (if k = i then Sl.no else .al k j) :: cutAl i ρ
  | s :: ρ => s :: cutAl i ρ
@[simp] theorem cutAl_nil (i : Nat) : cutAl i [] = [] := rfl
@[simp] theorem cutAl_al (i k j : Nat) (ρ : Rho) : cutAl i (.al k j :: ρ) = (if k = i then Sl.no else .al k j) :: cutAl i ρ := rfl
@[simp] theorem cutAl_no (i : Nat) (ρ : Rho) : cutAl i (.no :: ρ) = .no :: cutAl i ρ := rfl
@[simp] theorem cutAl_pu (i : Nat) (d : D) (ρ : Rho) : cutAl i (.pu d :: ρ) = .pu d :: cutAl i ρ := rfl
@[simp] theorem cutAl_ow (i : Nat) (p : Bool) (c : Ct) (ρ : Rho) : cutAl i (.ow p c :: ρ) = .ow p c :: cutAl i ρ := rfl
@[simp] theorem cutAl_ll (i : Nat) (c : Nt) (ρ : Rho) : cutAl i (.ll c :: ρ) = .ll c :: cutAl i ρ := rfl
theorem cutAl_length (i : Nat) : ∀ ρ : Rho, (cutAl i ρ).length = ρ.length
  | [] => rfl
  | .no :: ρ => by simp [cutAl_length i ρ]
  | .pu d :: ρ => by simp [cutAl_length i ρ]
  | .ow p c :: ρ => by simp [cutAl_length i ρ]
  | .ll c :: ρ => by simp [cutAl_length i ρ]
  | .al k j :: ρ => by simp [cutAl_length i ρ]
def notAl (s : Sl) : Bool := match s with
  | .al _ _ => false
  | _ => true
theorem cutAl_get (i : Nat) {s : Sl} (h : notAl s = true) (hn : s ≠ .no) : ∀ (ρ : Rho) (j : Nat), (cutAl i ρ)[j]? = some s ↔ ρ[j]? = some s
  | [], j => by simp
  | t :: ρ, 0 => by
    cases t with
    | al k m =>
      rw [cutAl_al]
      simp only [List.getElem?_cons_zero, Option.some.injEq]
      constructor
      · intro e
        split at e
        · exact absurd e.symm hn
        · subst e; cases h
      · intro e; subst e; cases h
    | _ => simp
  | t :: ρ, j + 1 => by
    have ih := cutAl_get i h hn ρ j
    cases t <;> simpa using ih
theorem cutAl_al_get (i : Nat) {k m : Nat} : ∀ (ρ : Rho) (j : Nat), (cutAl i ρ)[j]? = some (.al k m) → ρ[j]? = some (.al k m) ∧ k ≠ i
  | [], j => by simp
  | t :: ρ, 0 => by
    cases t with
    | al k' m' =>
      rw [cutAl_al]
      simp only [List.getElem?_cons_zero, Option.some.injEq]
      intro e
      split at e
      · cases e
      · cases e; exact ⟨rfl, ‹_›⟩
    | _ => simp
  | t :: ρ, j + 1 => by
    have ih := cutAl_al_get i (k := k) (m := m) ρ j
    cases t <;> simpa using ih
def noLL : Rho → Bool
  | [] => true
  | .ll _ :: _ => false
  | _ :: ρ => noLL ρ
@[simp] theorem noLL_nil : noLL [] = true := rfl
@[simp] theorem noLL_al (k j : Nat) (ρ : Rho) : noLL (.al k j :: ρ) = noLL ρ := rfl
@[simp] theorem noLL_no (ρ : Rho) : noLL (.no :: ρ) = noLL ρ := rfl
@[simp] theorem noLL_pu (d : D) (ρ : Rho) : noLL (.pu d :: ρ) = noLL ρ := rfl
@[simp] theorem noLL_ow (p : Bool) (c : Ct) (ρ : Rho) : noLL (.ow p c :: ρ) = noLL ρ := rfl
@[simp] theorem noLL_ll (c : Nt) (ρ : Rho) : noLL (.ll c :: ρ) = false := rfl
theorem noLL_get : ∀ {ρ : Rho}, noLL ρ = true → ∀ (j : Nat) n, ρ[j]? ≠ some (Sl.ll n)
  | [], _, j, xss => by simp
  | t :: ρ, h, 0, xss => by intro e; simp at e; subst e; cases h
  | t :: ρ, h, j + 1, xss => by
    have ih := noLL_get (ρ := ρ) (by cases t <;> first | exact h | cases h) j xss
    simpa using ih
/-! heaps that stand where F says -/
open Classical in
noncomputable def ovl (Z : Hp) (fs : List Addr) (H : Hp) : Hp := fun c => if c ∈ fs then H c else Z c
theorem ovl_in {Z H : Hp} {fs : List Addr} {c : Addr} (h : c ∈ fs) : ovl Z fs H c = H c := by unfold ovl; rw [if_pos h]
theorem ovl_out {Z H : Hp} {fs : List Addr} {c : Addr} (h : c ∉ fs) : ovl Z fs H c = Z c := by unfold ovl; rw [if_neg h]
theorem same_ovl {Z H : Hp} {fs : List Addr} (h : ∀ b ∈ fs, Z b = none) : Same Z (ovl Z fs H) := fun b o e => by
  rw [ovl_out]
  · exact e
  · intro hb; rw [h b hb] at e; cases e
noncomputable def Gm.gh (G : Gm) (fs : List Addr) (H : Hp) : Gm := { G with H0 := ovl G.H0 fs H }
section
variable {K : PySem.W.Frag} {G : Gm} {Z Z' : Hp} {ρ ρ' : Rho} {σ : St} {H H' : Hp} {fs : List Addr} {k : Nat} {xss : List (List D)} {a : Addr} {bs : List Addr}
/-- what is known of things beside the slots -/
structure FP (K : PySem.W.Frag) (G : Gm) (Z : Hp) (ρ : Rho) (σ : St) (H : Hp) (fs : List Addr) : Prop where
  o : ∀ b ∈ fs, ∃ o, H b = some o
  z : ∀ b ∈ fs, Z b = none
  g : ∀ b ∈ fs, G.H0 b = none
  n : ∀ b ∈ fs, NewA ρ σ H b
theorem Sim.toGh (S : Sim K G Z ρ σ H) (F : FP K G Z ρ σ H fs) : Sim K (G.gh fs H) Z ρ σ H where
  zz := S.zz
  zh := S.zh
  fr := fun b u e l => by
    by_cases hb : b ∈ fs
    · have e' : ovl G.H0 fs H b = some u := e
      rw [ovl_in hb] at e'
      exact e'
    · have e' : ovl G.H0 fs H b = some u := e
      rw [ovl_out hb] at e'
      exact S.fr b u e' l
  nw := fun b u e => by
    rcases S.nw b u e with q | q
    · exact .inl q
    · refine .inr ?_
      show ovl G.H0 fs H b = none
      rw [ovl_out]
      · exact q
      · intro hb; rw [F.z b hb] at e; cases e
  pu := S.pu
  ow := fun i p c e => by
    obtain ⟨b, u, q, hu, r, zb, l, nb⟩ := S.ow i p c e
    refine ⟨b, u, q, hu, r, zb, l, fun hp => ?_⟩
    show ovl G.H0 fs H b = none
    rw [ovl_out]
    · exact nb hp
    · intro hb; exact (F.n b hb).1 i p c e q
  ne := S.ne
  pin := S.pin
  len := S.len
  lx := S.lx.frame (fun _ _ e => ⟨e, rfl⟩) (fun _ _ _ e => ⟨e, rfl⟩) (.refl _) fun b u f zb gn w hu => ⟨hu, zb, (by
    show ovl G.H0 fs H b = none
    rw [ovl_out]
    · exact gn
    · intro hb; exact (F.n b hb).2 f), w⟩
/-- what was known of them at the start -/
structure FS (G : Gm) (H1 : Hp) (fs : List Addr) : Prop where
  o : ∀ b ∈ fs, ∃ o, H1 b = some o
  g : ∀ b ∈ fs, G.H0 b = none
  z : ∀ b ∈ fs, G.Z0 b = none
  l : ∀ b ∈ fs, ¬ G.lent b
theorem Sim.fixed (S : Sim K G Z ρ σ H) (F : FP K G Z ρ σ H fs) : FS G H fs := ⟨F.o, F.g, fun b hb => none_of_same S.zz (F.z b hb), fun b hb => S.notLent (F.n b hb).1⟩
theorem Sim.ofGh {H1 : Hp} (S : Sim K (G.gh fs H1) Z ρ σ H) (F : FS G H1 fs) : Sim K G Z ρ σ H ∧ FP K G Z ρ σ H fs ∧ ∀ b ∈ fs, H b = H1 b := by
  have up : ∀ b, (G.gh fs H1).H0 b = none → G.H0 b = none := fun b e => by
    by_cases hb : b ∈ fs
    · exact F.g b hb
    · have e' : ovl G.H0 fs H1 b = none := e
      rw [ovl_out hb] at e'
      exact e'
  have nself : ∀ b ∈ fs, (G.gh fs H1).H0 b ≠ none := fun b hb e => by
    have e' : ovl G.H0 fs H1 b = none := e
    rw [ovl_in hb] at e'
    obtain ⟨o, ho⟩ := F.o b hb
    rw [ho] at e'
    cases e'
  have hh : ∀ b ∈ fs, H b = H1 b := fun b hb => by
    obtain ⟨o, ho⟩ := F.o b hb
    rw [ho]
    refine S.fr b o ?_ (F.l b hb)
    show ovl G.H0 fs H1 b = some o
    rw [ovl_in hb]
    exact ho
  refine ⟨⟨S.zz, S.zh, fun b u e l => S.fr b u ?_ l, fun b u e => (S.nw b u e).imp (fun q => q) (up b), S.pu, fun i p c e => ?_, S.ne, S.pin, S.len, S.lx.frame (fun _ _ e => ⟨e, rfl⟩) (fun _ _ _ e => ⟨e, rfl⟩) (.refl _) fun b u f zb gn w hu => ⟨hu, zb, up b gn, w⟩⟩, ⟨fun b hb => by rw [hh b hb]; exact F.o b hb, fun b hb => ?_, F.g, fun b hb => ⟨fun i p c e q => ?_, fun f => nself b hb (S.lx.live f).2.2.1⟩⟩, hh⟩
  · show ovl G.H0 fs H1 b = some u
    rw [ovl_out]
    · exact e
    · intro hb; rw [F.g b hb] at e; cases e
  · obtain ⟨b, u, q, hu, r, zb, l, nb⟩ := S.ow i p c e
    exact ⟨b, u, q, hu, r, zb, l, fun hp => up b (nb hp)⟩
  · cases e : Z b with
    | none => rfl
    | some u =>
      rcases S.nw b u e with q | q
      · have q' : G.Z0 b = some u := q
        rw [F.z b hb] at q'; cases q'
      · exact absurd q (nself b hb)
  · obtain ⟨b', u, q', hu, r, zb, l, nb⟩ := S.ow i p c e
    rw [q] at q'
    cases q'
    cases p with
    | true => exact F.l b hb (l rfl)
    | false => exact nself b hb (nb rfl)
/-- the slot is let go, its things stand beside -/
theorem Sim.dropN {n : Nt} {v : V} (S : Sim K G Z ρ σ H) (h : ρ[k]? = some (Sl.ll n)) (A : LLat K G Z ρ σ H k v fs n) : Sim K G Z ((cutAl k ρ).set k .no) σ H ∧ FP K G Z ((cutAl k ρ).set k .no) σ H fs := by
  have hk : k < ρ.length := (List.getElem?_eq_some_iff.mp h).1
  have hk' : k < (cutAl k ρ).length := by rw [cutAl_length]; exact hk
  have g : ∀ (j : Nat) s, ((cutAl k ρ).set k .no)[j]? = some s → notAl s = true → s ≠ .no → j ≠ k ∧ ρ[j]? = some s := fun j s e h1 h2 => by
    by_cases hj : j = k
    · subst hj; rw [List.getElem?_set_self hk'] at e; cases e; exact absurd rfl h2
    · rw [List.getElem?_set_ne (Ne.symm hj)] at e; exact ⟨hj, (cutAl_get k h1 h2 ρ j).mp e⟩
  have nl : ∀ (j : Nat) yss, ((cutAl k ρ).set k .no)[j]? ≠ some (Sl.ll yss) := fun j yss e => by
    obtain ⟨hj, e⟩ := g j _ e rfl (by simp)
    exact hj (S.lx.one j k _ _ e h)
  have hob : ∀ b ∈ fs, ∃ o, H b = some o := fun b hb => A.r.live hb
  refine ⟨⟨S.zz, S.zh, S.fr, S.nw, fun j d e => S.pu j d (g j _ e rfl (by simp)).2, fun j p c e => S.ow j p c (g j _ e rfl (by simp)).2, fun j m p q c d n e1 e2 => S.ne j m p q c d n (g j _ e1 rfl (by simp)).2 (g m _ e2 rfl (by simp)).2, fun j x hj => ?_, by rw [List.length_set, cutAl_length]; exact S.len, ⟨fun j yss e => absurd e (nl j yss), fun j m yss zss e _ => absurd e (nl j yss), fun j m r yss _ e => absurd e (nl m yss)⟩⟩, ⟨hob, A.z, A.g, fun b hb => ⟨fun j p c e => A.w b hb j p c (g j _ e rfl (by simp)).2, fun ⟨j, yss, _, _, e, _⟩ => nl j yss e⟩⟩⟩
  obtain ⟨q, c', hc'⟩ := S.pin j x hj
  refine ⟨q, c', ?_⟩
  rw [List.getElem?_set_ne]
  · exact (cutAl_get k rfl (by simp) ρ j).mpr hc'
  · intro e; subst e; rw [h] at hc'; cases hc'
theorem Sim.dropLL (S : Sim K G Z ρ σ H) (h : ρ[k]? = some (Sl.ll (.li xss))) (A : LLa K G Z ρ σ H k a bs xss) : Sim K G Z ((cutAl k ρ).set k .no) σ H ∧ FP K G Z ((cutAl k ρ).set k .no) σ H (a :: bs) := S.dropN h A.at
/-- .. and taken back -/
theorem Sim.putN {n : Nt} {v : V} (S : Sim K G Z ρ σ H) (h : ρ[k]? = some Sl.no) (nl : noLL ρ = true) (hs : σ[k]? = some (some v)) (r : NR (RpAll K Z) H v n fs) (nd : fs.Nodup) (F : FP K G Z ρ σ H fs) : Sim K G Z ((cutAl k ρ).set k (.ll n)) σ H := by
  have hk : k < ρ.length := (List.getElem?_eq_some_iff.mp h).1
  have hk' : k < (cutAl k ρ).length := by rw [cutAl_length]; exact hk
  have g : ∀ (j : Nat) s, ((cutAl k ρ).set k (.ll n))[j]? = some s → notAl s = true → s ≠ .no → (∀ yss, s ≠ .ll yss) → j ≠ k ∧ ρ[j]? = some s := fun j s e h1 h2 h3 => by
    by_cases hj : j = k
    · subst hj; rw [List.getElem?_set_self hk'] at e; cases e; exact absurd rfl (h3 _)
    · rw [List.getElem?_set_ne (Ne.symm hj)] at e; exact ⟨hj, (cutAl_get k h1 h2 ρ j).mp e⟩
  have gl : ∀ (j : Nat) yss, ((cutAl k ρ).set k (.ll n))[j]? = some (Sl.ll yss) → j = k ∧ yss = n := fun j yss e => by
    by_cases hj : j = k
    · subst hj; rw [List.getElem?_set_self hk'] at e; cases e; exact ⟨rfl, rfl⟩
    · rw [List.getElem?_set_ne (Ne.symm hj)] at e
      exact absurd ((cutAl_get k rfl (by simp) ρ j).mp e) (noLL_get nl j yss)
  refine ⟨S.zz, S.zh, S.fr, S.nw, fun j d e => S.pu j d (g j _ e rfl (by simp) (by simp)).2, fun j p c e => S.ow j p c (g j _ e rfl (by simp) (by simp)).2, fun j m p q c d nn e1 e2 => S.ne j m p q c d nn (g j _ e1 rfl (by simp) (by simp)).2 (g m _ e2 rfl (by simp) (by simp)).2, fun j x hj => ?_, by rw [List.length_set, cutAl_length]; exact S.len, ⟨fun j yss e => ?_, fun j m yss zss e1 e2 => by rw [(gl j yss e1).1, (gl m zss e2).1], fun j m r' yss e1 e2 => ?_⟩⟩
  · obtain ⟨q, c', hc'⟩ := S.pin j x hj
    refine ⟨q, c', ?_⟩
    rw [List.getElem?_set_ne]
    · exact (cutAl_get k rfl (by simp) ρ j).mpr hc'
    · intro e; subst e; rw [h] at hc'; cases hc'
  · obtain ⟨rfl, rfl⟩ := gl j yss e
    exact ⟨v, fs, hs, r, nd, F.z, F.g, fun b hb m p c e => (F.n b hb).1 m p c (g m _ e rfl (by simp) (by simp)).2⟩
  · obtain ⟨rfl, rfl⟩ := gl m yss e2
    by_cases hj : j = m
    · subst hj; rw [List.getElem?_set_self hk'] at e1; cases e1
    · rw [List.getElem?_set_ne (Ne.symm hj)] at e1
      exact absurd rfl (cutAl_al_get m ρ j e1).2
theorem Sim.putLL (S : Sim K G Z ρ σ H) (h : ρ[k]? = some Sl.no) (nl : noLL ρ = true) (hs : σ[k]? = some (some (V.ref a))) (ha : H a = some (.lst (bs.map V.ref)))
    (hp : Paired (fun b xs => ∃ vs, H b = some (.lst vs) ∧ RpAll K Z vs xs) bs xss) (nd : (a :: bs).Nodup) (F : FP K G Z ρ σ H (a :: bs)) : Sim K G Z ((cutAl k ρ).set k (.ll (.li xss))) σ H := S.putN h nl hs (.li ha hp) nd F
theorem paired_set {α β : Type} {P : α → β → Prop} : ∀ {l : List α} {m : List β} (j : Nat) {a : α} {b : β}, Paired P l m → l[j]? = some a → P a b → Paired P l (m.set j b)
  | _, _, _, _, _, .nil, e, _ => by simp at e
  | _, _, 0, _, _, .cons _ r, e, f => by simp at e; subst e; exact .cons f r
  | _, _, j + 1, _, _, .cons h r, e, f => .cons h (paired_set j r (by simpa using e) f)
/-- one of the lists is written -/
theorem Sim.writeLL (S : Sim K G Z ρ σ H) (h : ρ[k]? = some (Sl.ll (.li xss))) (A : LLa K G Z ρ σ H k a bs xss) {j : Nat} {b : Addr} (hb : bs[j]? = some b) {vs : List V} {ds : List D} (r : RpAll K Z vs ds) :
    Sim K G Z (ρ.set k (.ll (.li (xss.set j ds)))) σ (upd H b (.lst vs)) ∧ LLa K G Z (ρ.set k (.ll (.li (xss.set j ds)))) σ (upd H b (.lst vs)) k a bs (xss.set j ds) := by
  have hk : k < ρ.length := (List.getElem?_eq_some_iff.mp h).1
  have mb : b ∈ bs := List.mem_of_getElem? hb
  have mb' : b ∈ a :: bs := List.mem_cons_of_mem _ mb
  have hab : a ≠ b := fun e => by subst e; exact (List.nodup_cons.mp A.nd).1 mb
  have g : ∀ (i : Nat) t, (ρ.set k (.ll (.li (xss.set j ds))))[i]? = some t → (i = k ∧ t = .ll (.li (xss.set j ds))) ∨ (i ≠ k ∧ ρ[i]? = some t) := fun i t e => by
    by_cases hi : i = k
    · subst hi; rw [List.getElem?_set_self hk] at e; cases e; exact .inl ⟨rfl, rfl⟩
    · rw [List.getElem?_set_ne (Ne.symm hi)] at e; exact .inr ⟨hi, e⟩
  have hp : Paired (fun c xs => ∃ vs', (upd H b (.lst vs)) c = some (.lst vs') ∧ RpAll K Z vs' xs) bs (xss.set j ds) := by
    have nd := (List.nodup_cons.mp A.nd).2
    have gen : ∀ {l : List Addr} {m : List (List D)} (j : Nat), Paired (fun c xs => ∃ vs', H c = some (.lst vs') ∧ RpAll K Z vs' xs) l m → l.Nodup → l[j]? = some b → Paired (fun c xs => ∃ vs', (upd H b (.lst vs)) c = some (.lst vs') ∧ RpAll K Z vs' xs) l (m.set j ds) := by
      intro l m j q
      induction q generalizing j with
      | nil => intro _ e; simp at e
      | cons hx rest ih =>
        rename_i c xs l' m'
        intro nd e
        obtain ⟨n1, n2⟩ := List.nodup_cons.mp nd
        cases j with
        | zero =>
          simp at e
          subst e
          refine .cons ⟨vs, upd_same, r⟩ (paired_imp rest fun d ys hd ⟨vs', w1, w2⟩ => ⟨vs', by rw [upd_ne]; exact w1; intro e; subst e; exact n1 hd, w2⟩)
        | succ j =>
          have e' : l'[j]? = some b := by simpa using e
          obtain ⟨vs', w1, w2⟩ := hx
          refine .cons ⟨vs', by rw [upd_ne]; exact w1; intro e; subst e; exact n1 (List.mem_of_getElem? e'), w2⟩ (ih j n2 e')
    exact gen j A.p nd hb
  have L : LLa K G Z (ρ.set k (.ll (.li (xss.set j ds)))) σ (upd H b (.lst vs)) k a bs (xss.set j ds) := ⟨A.s, by rw [upd_ne hab]; exact A.h, hp, A.nd, A.z, A.g, fun c hc i p t e => by
    rcases g i _ e with ⟨_, e'⟩ | ⟨_, e⟩
    · cases e'
    · exact A.w c hc i p t e⟩
  refine ⟨⟨S.zz, fun c u e => ?_, fun c u e nl => ?_, S.nw, fun i d e => ?_, fun i q d e => ?_, fun i m q q' c1 d n1 e1 e2 => ?_, fun i x hi => ?_, by rw [List.length_set]; exact S.len, ⟨fun i yss e => ?_, fun i m yss zss e1 e2 => ?_, fun i m t yss e1 e2 a' bs' h1 h2 => ?_⟩⟩, L⟩
  · rw [upd_ne (ne_of_none e (A.z b mb'))]; exact S.zh _ _ e
  · rw [upd_ne (ne_of_none e (A.g b mb'))]; exact S.fr c u e nl
  · rcases g i _ e with ⟨_, e'⟩ | ⟨_, e⟩
    · cases e'
    · exact S.pu i d e
  · rcases g i _ e with ⟨_, e'⟩ | ⟨_, e⟩
    · cases e'
    · obtain ⟨c, u, q1, hu, r1⟩ := S.ow i q d e
      refine ⟨c, u, q1, ?_, r1⟩
      rw [upd_ne]
      · exact hu
      · intro e'; subst e'; exact A.w _ mb' i _ _ e q1
  · rcases g i _ e1 with ⟨_, e'⟩ | ⟨_, e1⟩
    · cases e'
    · rcases g m _ e2 with ⟨_, e'⟩ | ⟨_, e2⟩
      · cases e'
      · exact S.ne i m _ _ _ _ n1 e1 e2
  · obtain ⟨q, c1, hc1⟩ := S.pin i x hi
    refine ⟨q, c1, ?_⟩
    rw [List.getElem?_set_ne]
    · exact hc1
    · intro e; subst e; rw [h] at hc1; cases hc1
  · rcases g i _ e with ⟨rfl, e'⟩ | ⟨hi, e⟩
    · cases e'; exact ⟨_, _, L.at⟩
    · exact absurd (S.lx.one i k _ _ e h) hi
  · have : i = k := by
      rcases g i _ e1 with ⟨rfl, _⟩ | ⟨hi, e1⟩
      · rfl
      · exact S.lx.one i k _ _ e1 h
    have : m = k := by
      rcases g m _ e2 with ⟨rfl, _⟩ | ⟨hi, e2⟩
      · rfl
      · exact S.lx.one m k _ _ e2 h
    omega
  · have hm : m = k := by
      rcases g m _ e2 with ⟨rfl, _⟩ | ⟨hi, e2⟩
      · rfl
      · exact S.lx.one m k _ _ e2 h
    subst hm
    rcases g i _ e1 with ⟨_, e'⟩ | ⟨hi, e1⟩
    · cases e'
    · have ea : a' = a := by have := h1.symm.trans A.s; cases this; rfl
      subst ea
      rw [upd_ne hab] at h2
      exact S.lx.al i m t _ e1 h a' bs' h1 h2
/-- a frozen list of own lists -/
theorem rp_lists {K : PySem.W.Frag} {Z : Hp} : ∀ {bs : List Addr} {xss : List (List D)}, Paired (fun b xs => ∃ vs, Z b = some (.lst vs) ∧ RpAll K Z vs xs) bs xss → RpAll K Z (bs.map V.ref) (xss.map PyData.list)
  | _, _, .nil => .nil
  | _, _, .cons ⟨vs, h1, h2⟩ r => .cons (.lst h1 h2) (rp_lists r)
abbrev dcD (ds : List (D × D)) : D := .dict ((.bool false, .none) :: ds)
def ntD : Nt → D
  | .li xss => .list (xss.map PyData.list)
  | .dd kvs => dcD (kvs.map fun m => (keyD m.1, dcD (m.2.map fun x => (keyD x.1, .list x.2))))
theorem rp_kls {K : PySem.W.Frag} {Z : Hp} : ∀ {bs : List (Key × Addr)} {xss : List (Key × List D)}, Paired (fun (q : Key × Addr) (x : Key × List D) => q.1 = x.1 ∧ ∃ vs, Z q.2 = some (.lst vs) ∧ RpAll K Z vs x.2) bs xss → RpKvs K Z (bs.map fun q => (q.1, V.ref q.2)) (xss.map fun x => (keyD x.1, .list x.2))
  | _, _, .nil => .nil
  | _, _, .cons ⟨e, vs, h1, h2⟩ r => .cons (by rw [e]) (.lst h1 h2) (rp_kls r)
theorem rp_dds {K : PySem.W.Frag} {Z : Hp} : ∀ {A : List (Key × Addr × List (Key × Addr))} {kvs : List (Key × List (Key × List D))}, Paired (fun (t : Key × Addr × List (Key × Addr)) (m : Key × List (Key × List D)) => t.1 = m.1 ∧ Z t.2.1 = some (.dK (t.2.2.map fun q => (q.1, V.ref q.2))) ∧ Paired (fun (q : Key × Addr) (x : Key × List D) => q.1 = x.1 ∧ ∃ vs, Z q.2 = some (.lst vs) ∧ RpAll K Z vs x.2) t.2.2 m.2) A kvs →
    RpKvs K Z (A.map fun t => (t.1, V.ref t.2.1)) (kvs.map fun m => (keyD m.1, dcD (m.2.map fun x => (keyD x.1, .list x.2))))
  | _, _, .nil => .nil
  | _, _, .cons ⟨e, h1, h2⟩ r => .cons (by rw [e]) (.dct h1 (rp_kls h2)) (rp_dds r)
theorem rp_nt {K : PySem.W.Frag} {Z Z' H : Hp} {v : V} {n : Nt} {fs : List Addr} (r : NR (RpAll K Z) H v n fs) (e : Same Z Z') (h : ∀ b ∈ fs, ∀ o, H b = some o → Z' b = some o) : Rp K Z' v (ntD n) := by
  have r' : NR (RpAll K Z') Z' v n fs := r.mono (fun _ _ q => q.mono e) h
  cases r' with
  | li h1 h2 => exact .lst h1 (rp_lists h2)
  | dd h1 h2 => exact .dct h1 (rp_dds h2)
theorem Sim.freezeN {n : Nt} (S : Sim K G Z ρ σ H) (h : ρ[k]? = some (Sl.ll n)) : ∃ v Z', σ[k]? = some (some v) ∧ Same Z Z' ∧ Rp K Z' v (ntD n) ∧ Sim K G Z' ((cutAl k ρ).set k (.pu (ntD n))) σ H := by
  obtain ⟨v, fs, A⟩ := S.lx.ll k _ h
  obtain ⟨S1, F⟩ := S.dropN h A
  have hk : k < ρ.length := (List.getElem?_eq_some_iff.mp h).1
  have hk' : k < (cutAl k ρ).length := by rw [cutAl_length]; exact hk
  have e1 : Same Z (ovl Z fs H) := same_ovl A.z
  have R : Rp K (ovl Z fs H) v (ntD n) := rp_nt A.r e1 fun b hb o ho => by rw [ovl_in hb]; exact ho
  have g : ∀ (j : Nat) s, ((cutAl k ρ).set k (.pu (ntD n)))[j]? = some s → (j = k ∧ s = .pu (ntD n)) ∨ (j ≠ k ∧ ((cutAl k ρ).set k .no)[j]? = some s) := fun j s e => by
    by_cases hj : j = k
    · subst hj; rw [List.getElem?_set_self hk'] at e; cases e; exact .inl ⟨rfl, rfl⟩
    · rw [List.getElem?_set_ne (Ne.symm hj)] at e ⊢; exact .inr ⟨hj, e⟩
  have nz : ∀ b o, (ovl Z fs H) b = some o → b ∉ fs → Z b = some o := fun b o e hb => by rw [ovl_out hb] at e; exact e
  refine ⟨v, ovl Z fs H, A.s, e1, R, ⟨S1.zz.trans e1, fun b u e => ?_, S1.fr, fun b u e => ?_, fun j d e => ?_, fun j p c e => ?_, fun j m p q c d nn x1 x2 => ?_, fun j x hj => ?_, by rw [List.length_set, cutAl_length]; exact S.len, ?_⟩⟩
  · by_cases hb : b ∈ fs
    · rw [ovl_in hb] at e; exact e
    · exact S1.zh _ _ (nz b u e hb)
  · by_cases hb : b ∈ fs
    · exact .inr (A.g b hb)
    · exact S1.nw _ _ (nz b u e hb)
  · rcases g j _ e with ⟨rfl, e'⟩ | ⟨hj, e⟩
    · cases e'; exact ⟨_, A.s, R⟩
    · obtain ⟨v', q, r⟩ := S1.pu j d e; exact ⟨v', q, r.mono e1⟩
  · rcases g j _ e with ⟨_, e'⟩ | ⟨hj, e⟩
    · cases e'
    · obtain ⟨b, u, q, hu, r, z, l⟩ := S1.ow j p c e
      refine ⟨b, u, q, hu, r.mono e1, ?_, l⟩
      rw [ovl_out]
      · exact z
      · intro hb; exact (F.n b hb).1 j p c e q
  · rcases g j _ x1 with ⟨_, e'⟩ | ⟨_, x1⟩
    · cases e'
    · rcases g m _ x2 with ⟨_, e'⟩ | ⟨_, x2⟩
      · cases e'
      · exact S1.ne j m p q c d nn x1 x2
  · obtain ⟨q, c, hc⟩ := S1.pin j x hj
    refine ⟨q, c, ?_⟩
    by_cases hj' : j = k
    · subst hj'; rw [List.getElem?_set_self hk'] at hc; cases hc
    · rw [List.getElem?_set_ne (Ne.symm hj')] at hc ⊢; exact hc
  · have nl : ∀ (j : Nat) yss, ((cutAl k ρ).set k (.pu (ntD n)))[j]? ≠ some (Sl.ll yss) := fun j yss e => by
      by_cases hj : j = k
      · subst hj; rw [List.getElem?_set_self hk'] at e; cases e
      · rw [List.getElem?_set_ne (Ne.symm hj)] at e
        exact hj (S.lx.one j k _ _ ((cutAl_get k rfl (by simp) ρ j).mp e) h)
    exact ⟨fun j yss e => absurd e (nl j yss), fun j m yss zss e _ => absurd e (nl j yss), fun j m r yss _ e => absurd e (nl m yss)⟩
theorem Sim.freezeLL (S : Sim K G Z ρ σ H) (h : ρ[k]? = some (Sl.ll (.li xss))) : ∃ a Z', σ[k]? = some (some (V.ref a)) ∧ Same Z Z' ∧ Rp K Z' (.ref a) (.list (xss.map PyData.list)) ∧ Sim K G Z' ((cutAl k ρ).set k (.pu (.list (xss.map PyData.list)))) σ H := by
  obtain ⟨v, Z', h1, h2, h3, h4⟩ := S.freezeN h
  obtain ⟨a, bs, A⟩ := S.lx.lla h
  have hv : v = .ref a := by have := h1.symm.trans A.s; cases this; rfl
  subst hv
  exact ⟨a, Z', h1, h2, h3, h4⟩
/-- a slot that comes to mean one of the lists -/
theorem Sim.putAl {i j : Nat} {b : Addr} (S : Sim K G Z ρ σ H) (h : ρ[k]? = some (Sl.ll (.li xss))) (A : LLa K G Z ρ σ H k a bs xss) (hb : bs[j]? = some b) (hik : i ≠ k) (hi : setSl ρ i (.al k j) = some ρ') : Sim K G Z ρ' (σ.set i (some (V.ref b))) H := by
  have e0 : ∃ s0, ρ[i]? = some s0 ∧ (∀ c, s0 ≠ .ow true c) ∧ ρ' = ρ.set i (.al k j) := by
    unfold setSl at hi
    split at hi
    · cases hi
    · rename_i s0 hp h0; cases hi; exact ⟨s0, h0, fun c e => hp c e, rfl⟩
    · cases hi
  obtain ⟨s0, h0, hp0, rfl⟩ := e0
  have hl : i < ρ.length := (List.getElem?_eq_some_iff.mp h0).1
  have hl' : i < σ.length := by rw [← S.len]; exact hl
  have h1 : setSl ρ i .no = some (ρ.set i .no) := by
    unfold setSl
    rw [h0]
    cases s0 with
    | ow p c => cases p <;> first | rfl | exact absurd rfl (hp0 c)
    | _ => rfl
  have S1 := S.put (v := .ref b) h1 trivial
  have g : ∀ (m : Nat) t, (ρ.set i (.al k j))[m]? = some t → (m = i ∧ t = .al k j) ∨ (m ≠ i ∧ ρ[m]? = some t ∧ (ρ.set i .no)[m]? = some t) := fun m t e => by
    by_cases hm : m = i
    · subst hm; rw [List.getElem?_set_self hl] at e; cases e; exact .inl ⟨rfl, rfl⟩
    · rw [List.getElem?_set_ne (Ne.symm hm)] at e; exact .inr ⟨hm, e, by rw [List.getElem?_set_ne (Ne.symm hm)]; exact e⟩
  have gs : ∀ m : Nat, m ≠ i → (σ.set i (some (V.ref b)))[m]? = σ[m]? := fun m hm => by rw [List.getElem?_set_ne (Ne.symm hm)]
  refine ⟨S1.zz, S1.zh, S1.fr, S1.nw, fun m d e => ?_, fun m p c e => ?_, fun m n p q c d hn e1 e2 => ?_, fun m x hm => ?_, by rw [List.length_set, List.length_set]; exact S.len, ⟨fun m yss e => ?_, fun m n yss zss e1 e2 => ?_, fun m n t yss e1 e2 a' bs' h3 h4 => ?_⟩⟩
  · rcases g m _ e with ⟨_, e'⟩ | ⟨_, _, e⟩
    · cases e'
    · exact S1.pu m d e
  · rcases g m _ e with ⟨_, e'⟩ | ⟨_, _, e⟩
    · cases e'
    · exact S1.ow m p c e
  · rcases g m _ e1 with ⟨_, e'⟩ | ⟨_, _, e1⟩
    · cases e'
    · rcases g n _ e2 with ⟨_, e'⟩ | ⟨_, _, e2⟩
      · cases e'
      · exact S1.ne m n p q c d hn e1 e2
  · obtain ⟨q, c, hc⟩ := S1.pin m x hm
    refine ⟨q, c, ?_⟩
    by_cases hm' : m = i
    · subst hm'; rw [List.getElem?_set_self hl] at hc; cases hc
    · rw [List.getElem?_set_ne (Ne.symm hm')] at hc ⊢; exact hc
  · rcases g m _ e with ⟨_, e'⟩ | ⟨_, _, e⟩
    · cases e'
    · obtain ⟨v', fs', A'⟩ := S1.lx.ll m yss e
      refine ⟨v', fs', A'.s, A'.r, A'.nd, A'.z, A'.g, fun c hc n p t e2 => ?_⟩
      rcases g n _ e2 with ⟨_, e'⟩ | ⟨_, _, e2⟩
      · cases e'
      · exact A'.w c hc n p t e2
  · rcases g m _ e1 with ⟨_, e'⟩ | ⟨_, _, e1⟩
    · cases e'
    · rcases g n _ e2 with ⟨_, e'⟩ | ⟨_, _, e2⟩
      · cases e'
      · exact S1.lx.one m n _ _ e1 e2
  · rcases g n _ e2 with ⟨_, e'⟩ | ⟨hn, e2, e2'⟩
    · cases e'
    · rcases g m _ e1 with ⟨rfl, e'⟩ | ⟨hm, e1, e1'⟩
      · cases e'
        rw [gs _ hn] at h3
        have ea : a' = a := by have := h3.symm.trans A.s; cases this; rfl
        subst ea
        have eb : bs' = bs := by
          have := h4.symm.trans A.h
          injection this with this
          injection this with this
          exact refs_inj this
        subst eb
        exact ⟨b, hb, List.getElem?_set_self hl'⟩
      · exact S1.lx.al m n t yss e1' e2' a' bs' h3 h4
end
end Ow
namespace Ow
open PySem L2
/-! ### rules for a list of own lists -/
def oFrzLL (k : Nat) : O D := fun ρ => match ρ[k]? with
  | some (.ll (.li xss)) => .ok (.list (xss.map PyData.list)) ((cutAl k ρ).set k (.pu (.list (xss.map PyData.list))))
  | _ => .st
def oLenLL (k : Nat) : O D := fun ρ => match ρ[k]? with
  | some (.ll (.li xss)) => .ok (.int xss.length) ρ
  | _ => .st
def appLL2 (k j : Nat) (xss : List (List D)) (m : M D) : M D := match m with
  | .ok d ρ2 => match ρ2[k]?, noLL ρ2, xss[j]? with
    | some .no, true, some xs => if xs.length < 16000000 then .ok .none ((cutAl k ρ2).set k (.ll (.li (xss.set j (xs ++ [d]))))) else .st
    | _, _, _ => .st
  | _ => .st
def appLL1 (k : Nat) (oe : O D) (i : D) (ρ1 : Rho) : M D := match ρ1[k]?, i with
  | some (.ll (.li xss)), .int n => match ixN xss.length n with
    | some j => appLL2 k j xss (oe ((cutAl k ρ1).set k .no))
    | none => .st
  | _, _ => .st
def oAppLL (k : Nat) (oi oe : O D) : O D := fun ρ => match ρ[k]? with
  | some (.ll (.li _)) => (oi ρ).bind (appLL1 k oe)
  | _ => .st
def alias1 (i k : Nat) (d : D) (ρ1 : Rho) : Mo := match ρ1[k]?, d with
  | some (.ll (.li xss)), .int n => match ixN xss.length n with
    | some j => if i ≠ k then nx1 (setSl ρ1 i (.al k j)) else .st
    | none => .st
  | _, _ => .st
def oAlias (i k : Nat) (oi : O D) : Os := fun ρ => match ρ[k]? with
  | some (.ll (.li _)) => (oi ρ).bindS (alias1 i k)
  | _ => .st
def alK1 (i : Nat) (f : Ct → List D → Option (Ct × D)) (ds : List D) (ρ : Rho) : M D := match ρ[i]? with
  | some (.al k j) => match ρ[k]? with
    | some (.ll (.li xss)) => match xss[j]? with
      | some xs => match f (.li xs) ds with
        | some (.li ys, d) => .ok d (ρ.set k (.ll (.li (xss.set j ys))))
        | _ => .st
      | none => .st
    | _ => .st
  | _ => .st
def oAlK (i : Nat) (f : Ct → List D → Option (Ct × D)) (oas : O (List D)) : O D := fun ρ => match ρ[i]? with
  | some (.al k j) => match ρ[k]? with
    | some (.ll (.li _)) => (oas ρ).bind (alK1 i f)
    | _ => .st
  | _ => .st
def stAl1 (i : Nat) (d iv : D) (ρ : Rho) : Mo := match ρ[i]? with
  | some (.al k j) => match ρ[k]? with
    | some (.ll (.li xss)) => match xss[j]? with
      | some xs => match stL xs iv d with
        | some (.li ys) => .nx (ρ.set k (.ll (.li (xss.set j ys))))
        | _ => .st
      | none => .st
    | _ => .st
  | _ => .st
def oStAl (i : Nat) (ov oi : O D) : Os := fun ρ => (ov ρ).bindS fun d ρ1 => match ρ1[i]? with
  | some (.al k j) => match ρ1[k]? with
    | some (.ll (.li _)) => (oi ρ1).bindS (stAl1 i d)
    | _ => .st
  | _ => .st
def appPop3 (k j m : Nat) (p : Int) (xss : List (List D)) (ρ1 : Rho) : M D := match xss[m]? with
  | some xs => if 0 ≤ p ∧ p.natAbs < 4611686018427387904 then match xs[p.toNat]? with
    | some d => match (xss.set m (xs.eraseIdx p.toNat))[j]? with
      | some ys => if ys.length < 16000000 then .ok .none (ρ1.set k (.ll (.li ((xss.set m (xs.eraseIdx p.toNat)).set j (ys ++ [d]))))) else .st
      | none => .st
    | none => .st
    else .st
  | none => .st
def appPop1 (k i q : Nat) (n : D) (ρ1 : Rho) : M D := match ρ1[k]?, n with
  | some (.ll (.li xss)), .int n => match ixN xss.length n, ρ1[i]?, ρ1[q]? with
    | some j, some (.al k' m), some (.pu (.int p)) => if k' = k then appPop3 k j m p xss ρ1 else .st
    | _, _, _ => .st
  | _, _ => .st
def oAppPop (k i q : Nat) (oi : O D) : O D := fun ρ => match ρ[k]? with
  | some (.ll (.li _)) => (oi ρ).bind (appPop1 k i q)
  | _ => .st
theorem MutK.of {K : PySem.W.Frag} {r : V → List V → Hp → VK → Prop} {f : Ct → List D → Option (Ct × D)} (h : MutS K r f) : MutK K r f := fun a o c vs ds c' d Z H Q e ho cr rv hf k =>
  h a o c vs ds c' d Z H Q e ho cr (by
    have gen : ∀ {vs : List V} {ds : List D}, RpAll K Z vs ds → Paired (Rdb K Z H) vs ds := by
      intro vs ds r
      induction ds generalizing vs with
      | nil => cases r; exact .nil
      | cons d ds ih => cases r with | cons r1 r2 => exact .cons (.inl r1) (ih r2)
    exact gen rv) hf k
/-- .. an answer that writes the same list -/
def MutL (K : PySem.W.Frag) (r : V → List V → Hp → VK → Prop) (f : Ct → List D → Option (Ct × D)) : Prop := ∀ (a : Addr) (us : List V) (xs : List D) (vs : List V) (ds : List D) (ys : List D) (d : D) (Z H : Hp) (Q : VK), Same Z H → H a = some (.lst us) → RpAll K Z us xs →
  RpAll K Z vs ds → f (.li xs) ds = some (.li ys, d) → (∀ v us', RpAll K Z us' ys → Rp K Z v d → Q v (upd H a (.lst us'))) → r (.ref a) vs H Q
theorem MutL.of {K : PySem.W.Frag} {r : V → List V → Hp → VK → Prop} {f : Ct → List D → Option (Ct × D)} (h : MutK K r f) : MutL K r f := fun a us xs vs ds ys d Z H Q e ho r1 rv hf k =>
  h a (.lst us) (.li xs) vs ds (.li ys) d Z H Q e ho r1 rv hf fun v o' cr rd => by
    cases o' with
    | lst us' => exact k v us' cr rd
    | _ => exact cr.elim
section
variable {X : Cx} {G : Gm} {B : Wish} {name x y z : Str} {apos cpos npos pos pos' spos p2 p3 pp1 pp2 pp3 pp4 : Pos} {e o ix : Expr} {es : List Expr} {id : String} {r : V → List V → Hp → VK → Prop} {f : Ct → List D → Option (Ct × D)}
theorem pd_frzLL (k : Nat) (hN : X.N[k]? = some x := by rfl) (hv : Vis X.env.scope x := by first | exact Or.inl rfl | exact Or.inr (Or.inl rfl) | exact Or.inr (Or.inr rfl)) (hd : (x == ("__debug__" : Str)) = false := by decide)
    (hcd : (x == ("__classdict__" : Str)) = false := by decide) : PD X G B (.Name x pos) (oFrzLL k) := by
  refine pe_imp (pe_var (i := k) hN hv hd hcd) ?_
  rintro σ H Q ⟨Z, ρ, S, p⟩
  unfold oFrzLL at p
  split at p
  · rename_i xss h
    obtain ⟨a, Z', q, e, R, S1⟩ := S.freezeLL h
    exact ⟨_, q, p _ Z' H e S1 R⟩
  · exact p.elim
theorem pd_lenLL (k : Nat) (hg : Gl X "len") (hm : X.mg "len" = none) (hN : X.N[k]? = some x := by rfl) (hv : Vis X.env.scope x := by first | exact Or.inl rfl | exact Or.inr (Or.inl rfl) | exact Or.inr (Or.inr rfl)) (hd : (x == ("__debug__" : Str)) = false := by decide)
    (hcd : (x == ("__classdict__" : Str)) = false := by decide) (hs : starEach [.Name x npos] X.env = (false, eval (.Name x npos) X.env) :: starEach [] X.env := by rfl) : PD X G B (.Call (.Name "len" p2) [.Name x npos] [] pos) (oLenLL k) := by
  refine pe_imp (pe_callB call_len hg hm PySem.boot_len (pa_cons (pe_var (i := k) hN hv hd hcd) pa_nil hs) (he := hs) (hpl := rfl)) ?_
  rintro σ H Q ⟨Z, ρ, S, p⟩
  unfold oLenLL at p
  split at p
  · rename_i xss h
    obtain ⟨a, bs, A⟩ := S.lx.lla h
    have hl : bs.length = xss.length := Paired.length A.p
    refine ⟨_, A.s, .ref a, xss.length, rfl, .inl ⟨bs.map V.ref, SqL.of A.h, by rw [List.length_map, hl]⟩, p _ Z H (.refl _) S (.int _)⟩
  · exact p.elim
/-- x[i] is the list at its place -/
theorem ix_at {K : PySem.W.Frag} {H : Hp} {a b : Addr} {bs : List Addr} {n : Int} {j : Nat} {Q : VK} {l : Nat} (h : H a = some (.lst (bs.map V.ref))) (hl : bs.length = l) (hj : ixN l n = some j) (hb : bs[j]? = some b) (q : Q (.ref b) H) : rIxL K (.ref a) (.int n) H Q := by
  subst hl
  refine ⟨a, bs.map V.ref, n, .ref b, rfl, rfl, SqL.of h, ?_, q⟩
  unfold atI
  rw [List.length_map, hj]
  show (bs.map V.ref)[j]? = some (.ref b)
  rw [List.getElem?_map, hb]
  rfl
theorem bs_at {K : PySem.W.Frag} {G : Gm} {Z : Hp} {ρ : Rho} {σ : St} {H : Hp} {k : Nat} {a : Addr} {bs : List Addr} {xss : List (List D)} (A : LLa K G Z ρ σ H k a bs xss) {n : Int} {j : Nat} (hj : ixN xss.length n = some j) : ∃ b, bs[j]? = some b := by
  have hl : bs.length = xss.length := Paired.length A.p
  have : j < xss.length := (ixN_seq hj).2.1
  exact ⟨bs[j]'(by omega), List.getElem?_eq_getElem (by omega)⟩
theorem xs_at {K : PySem.W.Frag} {G : Gm} {Z : Hp} {ρ : Rho} {σ : St} {H : Hp} {k : Nat} {a : Addr} {bs : List Addr} {xss : List (List D)} (A : LLa K G Z ρ σ H k a bs xss) {j : Nat} {xs : List D} (hj : xss[j]? = some xs) : ∃ b us, bs[j]? = some b ∧ H b = some (.lst us) ∧ RpAll K Z us xs := by
  have hl : bs.length = xss.length := Paired.length A.p
  have : j < xss.length := (List.getElem?_eq_some_iff.mp hj).1
  have hb : bs[j]? = some (bs[j]'(by omega)) := List.getElem?_eq_getElem (by omega)
  obtain ⟨us, h1, h2⟩ := paired_both A.p hb hj
  exact ⟨_, us, hb, h1, h2⟩
theorem pd_appLL (k : Nat) {oi oe : O D} (hi : PD X G B ix oi) (he : ∀ G, PD X G noB e oe)
    (hN : X.N[k]? = some x := by rfl) (hv : Vis X.env.scope x := by first | exact Or.inl rfl | exact Or.inr (Or.inl rfl) | exact Or.inr (Or.inr rfl)) (hd : (x == ("__debug__" : Str)) = false := by decide)
    (hcd : (x == ("__classdict__" : Str)) = false := by decide) (hsi : PlainIx ix := by exact fun _ _ => rfl)
    (hbase : attributeBase (.Subscript (.Name x npos) ix pos) "append" X.env (eval (.Subscript (.Name x npos) ix pos) X.env) = eval (.Subscript (.Name x npos) ix pos) X.env := by rfl)
    (hfew : ((backTo cpos (starEach [e] X.env)).all (fun x => !x.1) && (backToKw cpos (keywordEach [] X.env)).all (fun x => x.1.isSome)
      && decide ([e].length + ([] : List Keyword).length + (if ([] : List Keyword).isEmpty then 0 else 1) < 30)) = true := by rfl)
    (hline : (apos.endLine == cpos.line) = true := by rfl) (hs : starEach [e] X.env = (false, eval e X.env) :: starEach [] X.env := by rfl) :
    PD X G B (.Call (.Attribute (.Subscript (.Name x npos) ix pos) "append" apos) [e] [] cpos) (oAppLL k oi oe) := by
  have hE : PE X e (fun σ H Q => ∃ G', Run X.K G' noB (PuR X.K) oe σ H Q) := ⟨fun pins s σ H Q I ⟨G', w⟩ => (he G').run pins s σ H Q I w⟩
  refine pe_imp (pe_bm PySem.F.plainAttrs_list F.slot_list_append F.type_list_append mt_append (pe_ix (ix_list) (pe_var (i := k) hN hv hd hcd) hi hsi) (pa_cons hE pa_nil hs) hbase hfew hline hs rfl) ?_
  rintro σ H Q ⟨Z, ρ, S, p⟩
  unfold oAppLL at p
  split at p
  · rename_i xss0 h0
    obtain ⟨a, bs0, A0⟩ := S.lx.lla h0
    refine ⟨_, A0.s, Z, ρ, S, Post.bind p fun iv d ρ1 Z1 H1 e1 S1 r1 p1 => ?_⟩
    unfold appLL1 at p1
    split at p1
    · rename_i xss n h1
      split at p1
      · rename_i j hj
        cases (show Rp X.K Z1 iv (.int n) from r1)
        obtain ⟨a', bs, A⟩ := S1.lx.lla h1
        have ea : a' = a := by have := A0.s.symm.trans A.s; cases this; rfl
        subst ea
        obtain ⟨b, hb⟩ := bs_at A hj
        have hl : bs.length = xss.length := Paired.length A.p
        have mb : b ∈ bs := List.mem_of_getElem? hb
        refine ix_at A.h hl hj hb ?_
        obtain ⟨b', us, hb', hus, rus⟩ := xs_at A (j := j) (xs := xss[j]'(ixN_seq hj).2.1) (List.getElem?_eq_getElem _)
        rw [hb] at hb'
        cases hb'
        obtain ⟨S2, F2⟩ := S1.dropLL h1 A
        have S3 := S2.toGh F2
        have FS1 := S2.fixed F2
        refine ⟨.inl ⟨rfl, us, SqL.of hus⟩, G.gh (a' :: bs) H1, Z1, _, S3, ?_⟩
        cases hoe : oe ((cutAl k ρ1).set k .no) with
        | st => rw [hoe] at p1; exact p1.elim
        | ex x' ρ2 => rw [hoe] at p1; exact p1.elim
        | ok d ρ2 =>
          rw [hoe] at p1
          intro v Z2 H2 e2 S4 rv
          have rv : Rp X.K Z2 v d := rv
          obtain ⟨S5, F5, hh⟩ := S4.ofGh FS1
          have p2 : Post X.K G B (PuR X.K) σ Z1 (appLL2 k j xss (.ok d ρ2)) Q := p1
          unfold appLL2 at p2
          dsimp only at p2
          split at p2
          · rename_i xs h2 hn hx
            split at p2
            · rename_i hlen
              have hx' : xss[j]'(ixN_seq hj).2.1 = xs := by
                have := hx
                rw [List.getElem?_eq_getElem (ixN_seq hj).2.1] at this
                exact Option.some.inj this
              rw [hx'] at rus
              have rus2 : RpAll X.K Z2 us xs := rus.mono e2
              have hp2 : Paired (fun b xs => ∃ vs, H2 b = some (.lst vs) ∧ RpAll X.K Z2 vs xs) bs xss := paired_imp A.p fun c ys hc ⟨vs, w1, w2⟩ => ⟨vs, by rw [hh c (List.mem_cons_of_mem _ hc)]; exact w1, w2.mono e2⟩
              have S6 := S5.putLL h2 hn A.s (by rw [hh a' List.mem_cons_self]; exact A.h) hp2 A.nd F5
              have hk : k < (cutAl k ρ2).length := by rw [cutAl_length]; exact (List.getElem?_eq_some_iff.mp h2).1
              have h6 : ((cutAl k ρ2).set k (.ll (.li xss)))[k]? = some (.ll (.li xss)) := List.getElem?_set_self hk
              obtain ⟨a6, bs6, A6⟩ := S6.lx.lla h6
              have ea : a6 = a' := by have := A6.s.symm.trans A.s; cases this; rfl
              subst ea
              have eb : bs6 = bs := by
                have h7 : H2 a6 = some (.lst (bs.map V.ref)) := by rw [hh a6 List.mem_cons_self]; exact A.h
                have := A6.h.symm.trans h7
                injection this with this
                injection this with this
                exact refs_inj this
              subst eb
              obtain ⟨S7, _⟩ := S6.writeLL h6 A6 hb (rus2.append (.one rv))
              rw [List.set_set] at S7
              refine ⟨b, us, v, rfl, rfl, by rw [hh b (List.mem_cons_of_mem _ mb)]; exact hus, by rw [rus.length]; exact lim_lt hlen, ?_⟩
              exact p2 .non Z2 _ e2 S7 .non
            · exact p2.elim
          · exact p2.elim
      · exact p1.elim
    · exact p1.elim
  · exact p.elim
theorem sd_alias (i k : Nat) {oi : O D} (hi : PD X G B ix oi) (hNd : X.N.Nodup)
    (hNi : X.N[i]? = some y := by rfl) (hx : Loc X.env.scope y := by first | exact Or.inl rfl | exact Or.inr rfl)
    (hN : X.N[k]? = some x := by rfl) (hv : Vis X.env.scope x := by first | exact Or.inl rfl | exact Or.inr (Or.inl rfl) | exact Or.inr (Or.inr rfl)) (hd : (x == ("__debug__" : Str)) = false := by decide)
    (hcd : (x == ("__classdict__" : Str)) = false := by decide) (hsi : PlainIx ix := by exact fun _ _ => rfl)
    (hs : swapsWith (.Subscript (.Name x npos) ix pos) (some (.Name y pos')) spos.line X.env = pure false := by rfl)
    (hf : X.fn y = true ∨ X.env.scope.names.lookup y = some .local := by first | exact .inl rfl | exact .inr rfl | assumption) :
    SD X G B (.Assign [.Name y pos'] (.Subscript (.Name x npos) ix pos) spos) (oAlias i k oi) := by
  refine ps_imp (ps_set hNd hNi hx (pe_ix (ix_list) (pe_var (i := k) hN hv hd hcd) hi hsi) hs hf) ?_
  rintro D' σ H ⟨Z, ρ, S, p⟩
  unfold oAlias at p
  split at p
  · rename_i xss0 h0
    obtain ⟨a, bs0, A0⟩ := S.lx.lla h0
    refine ⟨_, A0.s, Z, ρ, S, PostS.bind p fun iv d ρ1 Z1 H1 e1 S1 r1 p1 => ?_⟩
    unfold alias1 at p1
    split at p1
    · rename_i xss n h1
      split at p1
      · rename_i j hj
        split at p1
        · rename_i hik
          cases (show Rp X.K Z1 iv (.int n) from r1)
          obtain ⟨a', bs, A⟩ := S1.lx.lla h1
          have ea : a' = a := by have := A0.s.symm.trans A.s; cases this; rfl
          subst ea
          obtain ⟨b, hb⟩ := bs_at A hj
          refine ix_at A.h (Paired.length A.p) hj hb ?_
          cases hq : setSl ρ1 i (.al k j) with
          | none => rw [hq] at p1; exact p1.elim
          | some ρ' =>
            rw [hq] at p1
            exact p1 _ Z1 H1 (.refl _) (S1.putAl h1 A hb hik hq)
        · exact p1.elim
      · exact p1.elim
    · exact p1.elim
  · exact p.elim
theorem al_at {K : PySem.W.Frag} {G : Gm} {Z : Hp} {ρ : Rho} {σ : St} {H : Hp} (S : Sim K G Z ρ σ H) {i k j : Nat} {xss : List (List D)} (hi : ρ[i]? = some (.al k j)) (hk : ρ[k]? = some (.ll (.li xss))) : ∃ a bs b, LLa K G Z ρ σ H k a bs xss ∧ bs[j]? = some b ∧ σ[i]? = some (some (V.ref b)) ∧ ∃ us, H b = some (.lst us) := by
  obtain ⟨a, bs, A⟩ := S.lx.lla hk
  obtain ⟨b, h1, h2⟩ := S.lx.al i k j _ hi hk a bs A.s A.h
  have hl : bs.length = xss.length := Paired.length A.p
  have : j < bs.length := (List.getElem?_eq_some_iff.mp h1).1
  obtain ⟨b', us, h3, h4, _⟩ := xs_at A (j := j) (xs := xss[j]'(by omega)) (List.getElem?_eq_getElem _)
  rw [h1] at h3
  cases h3
  exact ⟨a, bs, b, A, h1, h2, us, h4⟩
theorem alK1_run {K : PySem.W.Frag} (hf : MutL K r f) {i : Nat} {σ : St} {Z H : Hp} {ρ : Rho} {v : V} {vs : List V} {ds : List D} {Q : VK} (S : Sim K G Z ρ σ H) (q : σ[i]? = some (some v)) (rv : RpAll K Z vs ds)
    (p : Post K G B (PuR K) σ Z (alK1 i f ds ρ) Q) : r v vs H Q := by
  unfold alK1 at p
  split at p
  · rename_i k j hi
    split at p
    · rename_i xss hk
      split at p
      · rename_i xs hx
        split at p
        · rename_i ys d hc
          obtain ⟨a, bs, b, A, hb, h2, us, hus⟩ := al_at S hi hk
          rw [q] at h2
          cases h2
          obtain ⟨b', us', hb', hus', rus⟩ := xs_at A hx
          rw [hb] at hb'
          cases hb'
          exact hf b us' xs vs ds ys d Z H Q S.zh hus' rus rv hc fun w us2 r2 rw' => p w Z _ (.refl _) (S.writeLL hk A hb r2).1 rw'
        · exact p.elim
      · exact p.elim
    · exact p.elim
  · exact p.elim
theorem pd_alK (i : Nat) {oas : O (List D)} (slot : Slot "list" name id) (hty : typeOf (.builtin id) = pure (.type "method_descriptor")) (hm : MtR X id r) (hf : MutL X.K r f) (ha : QD X G B (e :: es) oas)
    (hN : X.N[i]? = some x := by rfl) (hv : Vis X.env.scope x := by first | exact Or.inl rfl | exact Or.inr (Or.inl rfl) | exact Or.inr (Or.inr rfl)) (hd : (x == ("__debug__" : Str)) = false := by decide)
    (hcd : (x == ("__classdict__" : Str)) = false := by decide)
    (hbase : attributeBase (.Name x npos) name X.env (eval (.Name x npos) X.env) = eval (.Name x npos) X.env := by rfl)
    (hfew : ((backTo cpos (starEach (e :: es) X.env)).all (fun x => !x.1) && (backToKw cpos (keywordEach [] X.env)).all (fun x => x.1.isSome)
      && decide ((e :: es).length + ([] : List Keyword).length + (if ([] : List Keyword).isEmpty then 0 else 1) < 30)) = true := by rfl)
    (hline : (apos.endLine == cpos.line) = true := by rfl) (hs : starEach (e :: es) X.env = (false, eval e X.env) :: starEach es X.env := by rfl) (hplain : (backTo cpos (starEach es X.env)).any (·.1) = false := by rfl) :
    PD X G B (.Call (.Attribute (.Name x npos) name apos) (e :: es) [] cpos) (oAlK i f oas) := by
  refine pe_imp (pe_bm PySem.F.plainAttrs_list slot hty hm (pe_var (i := i) hN hv hd hcd) ha hbase hfew hline hs hplain) ?_
  rintro σ H Q ⟨Z, ρ, S, p⟩
  unfold oAlK at p
  split at p
  · rename_i k j hi
    split at p
    · rename_i xss hk
      obtain ⟨a, bs, b, A, hb, h2, us, hus⟩ := al_at S hi hk
      exact ⟨_, h2, .inl ⟨rfl, us, SqL.of hus⟩, Z, ρ, S, Post.bind p fun ws as ρ1 Z1 H1 e1 S1 r1 p1 => alK1_run hf S1 h2 r1 p1⟩
    · exact p.elim
  · exact p.elim
theorem sd_stAl (i : Nat) {ov oi : O D} (hv : PD X G B e ov) (hi : PD X G B ix oi)
    (hN : X.N[i]? = some x := by rfl) (hvis : Vis X.env.scope x := by first | exact Or.inl rfl | exact Or.inr (Or.inl rfl) | exact Or.inr (Or.inr rfl)) (hd : (x == ("__debug__" : Str)) = false := by decide)
    (hcd : (x == ("__classdict__" : Str)) = false := by decide)
    (ha : ∀ v, assign (.Subscript (.Name x npos) ix pos') X.env v = (do
      let ov ← holding [v] (eval (.Name x npos) X.env)
      let iv ← holding [v, ov] (eval ix X.env)
      standAt pos'
      holding [v, ov, iv] (setItem ov iv v)
      release [v, ov, iv] []) := by intro _; rfl)
    (hs : swapsWithSole [.Subscript (.Name x npos) ix pos'] e pos.line X.env = pure false := by rfl) (hw : swappedStores [.Subscript (.Name x npos) ix pos'] e X.env = pure none := by rfl)
    (h1 : (assignEach [.Subscript (.Name x npos) ix pos'] X.env).map (·.2) = [assign (.Subscript (.Name x npos) ix pos') X.env] := by rfl) :
    SD X G B (.Assign [.Subscript (.Name x npos) ix pos'] e pos) (oStAl i ov oi) :=
  ps_imp (ps_asg hv (pg_sub (pe_var (i := i) hN hvis hd hcd) hi set_list ha) hs hw h1) fun D σ H w => runS_bind (C := fun v H1 => gSub (tVar i) (Run X.K G B (PuR X.K) oi) rSetL v σ H1 D.nx) w fun v d ρ1 Z1 H1 S1 rv p1 => by
    split at p1
    · rename_i k j hi1
      split at p1
      · rename_i xss hk
        obtain ⟨a, bs, b, A, hb, h2, us, hus⟩ := al_at S1 hi1 hk
        refine ⟨_, h2, Z1, ρ1, S1, PostS.bind p1 fun iv di ρ2 Z2 H2 e2 S2 r2 p2 => ?_⟩
        unfold stAl1 at p2
        split at p2
        · rename_i k' j' hi2
          split at p2
          · rename_i yss hk2
            split at p2
            · rename_i xs hx
              split at p2
              · rename_i ys hc
                unfold stL at hc
                split at hc
                · rename_i jj
                  cases hj : ixN xs.length jj with
                  | none => rw [hj] at hc; cases hc
                  | some n =>
                    rw [hj] at hc
                    cases hc
                    cases (show Rp X.K Z2 iv (.int jj) from r2)
                    obtain ⟨a', bs', b', A', hb', h2', us', hus'⟩ := al_at S2 hi2 hk2
                    rw [h2] at h2'
                    cases h2'
                    obtain ⟨b'', us'', hb'', hus'', rus⟩ := xs_at A' hx
                    rw [hb'] at hb''
                    cases hb''
                    exact ⟨b, us'', jj, n, rfl, rfl, hus'', by rw [RpAll.length rus]; exact hj, p2 σ Z2 _ (.refl _) (S2.writeLL hk2 A' hb' (RpAll.set (Rp.mono rv e2) n rus)).1⟩
                · cases hc
              · exact p2.elim
            · exact p2.elim
          · exact p2.elim
        · exact p2.elim
      · exact p1.elim
    · exact p1.elim
theorem pd_appPop (k i q : Nat) {oi : O D} (hi : PD X G B ix oi)
    (hN : X.N[k]? = some x := by rfl) (hv : Vis X.env.scope x := by first | exact Or.inl rfl | exact Or.inr (Or.inl rfl) | exact Or.inr (Or.inr rfl)) (hd : (x == ("__debug__" : Str)) = false := by decide)
    (hcd : (x == ("__classdict__" : Str)) = false := by decide)
    (hNi : X.N[i]? = some y := by rfl) (hvi : Vis X.env.scope y := by first | exact Or.inl rfl | exact Or.inr (Or.inl rfl) | exact Or.inr (Or.inr rfl)) (hdi : (y == ("__debug__" : Str)) = false := by decide)
    (hcdi : (y == ("__classdict__" : Str)) = false := by decide)
    (hNq : X.N[q]? = some z := by rfl) (hvq : Vis X.env.scope z := by first | exact Or.inl rfl | exact Or.inr (Or.inl rfl) | exact Or.inr (Or.inr rfl)) (hdq : (z == ("__debug__" : Str)) = false := by decide)
    (hcdq : (z == ("__classdict__" : Str)) = false := by decide) (hsi : PlainIx ix := by exact fun _ _ => rfl)
    (hbase : attributeBase (.Subscript (.Name x npos) ix pos) "append" X.env (eval (.Subscript (.Name x npos) ix pos) X.env) = eval (.Subscript (.Name x npos) ix pos) X.env := by rfl)
    (hfew : ((backTo cpos (starEach [.Call (.Attribute (.Name y pp1) "pop" pp2) [.Name z pp3] [] pp4] X.env)).all (fun x => !x.1) && (backToKw cpos (keywordEach [] X.env)).all (fun x => x.1.isSome)
      && decide ([Expr.Call (.Attribute (.Name y pp1) "pop" pp2) [.Name z pp3] [] pp4].length + ([] : List Keyword).length + (if ([] : List Keyword).isEmpty then 0 else 1) < 30)) = true := by rfl)
    (hline : (apos.endLine == cpos.line) = true := by rfl) (hs : starEach [.Call (.Attribute (.Name y pp1) "pop" pp2) [.Name z pp3] [] pp4] X.env = (false, eval (.Call (.Attribute (.Name y pp1) "pop" pp2) [.Name z pp3] [] pp4) X.env) :: starEach [] X.env := by rfl)
    (hbase2 : attributeBase (.Name y pp1) "pop" X.env (eval (.Name y pp1) X.env) = eval (.Name y pp1) X.env := by rfl)
    (hfew2 : ((backTo pp4 (starEach [.Name z pp3] X.env)).all (fun x => !x.1) && (backToKw pp4 (keywordEach [] X.env)).all (fun x => x.1.isSome)
      && decide ([Expr.Name z pp3].length + ([] : List Keyword).length + (if ([] : List Keyword).isEmpty then 0 else 1) < 30)) = true := by rfl)
    (hline2 : (pp2.endLine == pp4.line) = true := by rfl) (hs2 : starEach [.Name z pp3] X.env = (false, eval (.Name z pp3) X.env) :: starEach [] X.env := by rfl) :
    PD X G B (.Call (.Attribute (.Subscript (.Name x npos) ix pos) "append" apos) [.Call (.Attribute (.Name y pp1) "pop" pp2) [.Name z pp3] [] pp4] [] cpos) (oAppPop k i q oi) := by
  refine pe_imp (pe_bm PySem.F.plainAttrs_list F.slot_list_append F.type_list_append mt_append (pe_ix (ix_list) (pe_var (i := k) hN hv hd hcd) hi hsi) (pa_cons (pe_bm PySem.F.plainAttrs_list F.slot_list_pop F.type_list_pop mt_popAt (pe_var (i := i) hNi hvi hdi hcdi) (pa_cons (pe_var (i := q) hNq hvq hdq hcdq) pa_nil hs2) hbase2 hfew2 hline2 hs2 rfl) pa_nil hs) hbase hfew hline hs rfl) ?_
  rintro σ H Q ⟨Z, ρ, S, p⟩
  unfold oAppPop at p
  split at p
  · rename_i xss0 h0
    obtain ⟨a, bs0, A0⟩ := S.lx.lla h0
    refine ⟨_, A0.s, Z, ρ, S, Post.bind p fun iv d ρ1 Z1 H1 e1 S1 r1 p1 => ?_⟩
    unfold appPop1 at p1
    split at p1
    · rename_i xss n h1
      split at p1
      · rename_i j k' m pz hj hi1 hq1
        split at p1
        · rename_i hkk
          subst hkk
          unfold appPop3 at p1
          split at p1
          · rename_i xs hx
            split at p1
            · rename_i hp0
              split at p1
              · rename_i dd hdd
                split at p1
                · rename_i ys hys
                  split at p1
                  · rename_i hlen
                    cases (show Rp X.K Z1 iv (.int n) from r1)
                    obtain ⟨a', bs, b2, A, hb2, h2, us0, hus0⟩ := al_at S1 hi1 h1
                    have ea : a' = a := by have := A0.s.symm.trans A.s; cases this; rfl
                    subst ea
                    obtain ⟨b, hb⟩ := bs_at A hj
                    obtain ⟨b2', us, hb2', hus, rus⟩ := xs_at A hx
                    rw [hb2] at hb2'
                    cases hb2'
                    obtain ⟨pv, hpv, rpv⟩ := S1.pu q _ hq1
                    cases rpv
                    obtain ⟨w, hw, rw'⟩ := RpAll.get rus hdd
                    have hl2 : pz.toNat < us.length := (List.getElem?_eq_some_iff.mp hw).1
                    obtain ⟨S2, A2⟩ := S1.writeLL h1 A hb2 (RpAll.eraseIdx pz.toNat rus)
                    have hkl : k' < ρ1.length := (List.getElem?_eq_some_iff.mp h1).1
                    have h2k : (ρ1.set k' (.ll (.li (xss.set m (xs.eraseIdx pz.toNat)))))[k']? = some (.ll (.li (xss.set m (xs.eraseIdx pz.toNat)))) := List.getElem?_set_self hkl
                    obtain ⟨b', us2, hb', hus2, rus2⟩ := xs_at A2 hys
                    rw [hb] at hb'
                    cases hb'
                    obtain ⟨bb, usb, hbb, husb, _⟩ := xs_at A (j := j) (xs := xss[j]'(ixN_seq hj).2.1) (List.getElem?_eq_getElem _)
                    rw [hb] at hbb
                    cases hbb
                    refine ix_at A.h (Paired.length A.p) hj hb ⟨.inl ⟨rfl, usb, SqL.of husb⟩, _, h2, .inl ⟨rfl, us, SqL.of hus⟩, _, hpv, ?_⟩
                    refine ⟨b2, us, pz, pz.toNat, w, rfl, rfl, hus, by omega, by omega, seqIndex_nat hp0.1 hl2, hw, ?_⟩
                    obtain ⟨S3, _⟩ := S2.writeLL h2k A2 hb (rus2.append (.one rw'))
                    rw [List.set_set] at S3
                    exact ⟨b, us2, w, rfl, rfl, hus2, by rw [rus2.length]; exact lim_lt hlen, p1 .non Z1 _ (.refl _) S3 .non⟩
                  · exact p1.elim
                · exact p1.elim
              · exact p1.elim
            · exact p1.elim
          · exact p1.elim
        · exact p1.elim
      · exact p1.elim
    · exact p1.elim
  · exact p.elim
end
end Ow
namespace Ow
open PySem L2
/-! ### a comprehension that makes a list of own lists -/
def newL1 (r : Rs) (ρ : Rho) : M D := match r with
  | .nw (.li ds) => .ok (.list ds) ρ
  | _ => .st
@[simp] theorem newL1_li (ds : List D) (ρ : Rho) : newL1 (.nw (.li ds)) ρ = .ok (.list ds) ρ := rfl
def oNewL (oe : O Rs) : O D := fun ρ => (oe ρ).bind newL1
def listsOf : List D → Option (List (List D))
  | [] => some []
  | .list xs :: r => (listsOf r).map (xs :: ·)
  | _ :: _ => none
@[simp] theorem listsOf_map (xss : List (List D)) : listsOf (xss.map PyData.list) = some xss := by
  induction xss with
  | nil => rfl
  | cons n r ih => simp [listsOf, ih]
theorem listsOf_eq : ∀ {ds : List D} {xss : List (List D)}, listsOf ds = some xss → ds = xss.map PyData.list
  | [], _, h => by cases h; rfl
  | d :: r, ns, h => by
    unfold listsOf at h
    split at h
    · rename_i e; cases e
    · rename_i i r' e
      cases e
      cases q : listsOf r with
      | none => rw [q] at h; cases h
      | some ms => rw [q] at h; cases h; rw [listsOf_eq q]; rfl
    · cases h
def mkLL3 (i : Nat) (xss : List (List D)) (o : Option Rho) : Mo := match o with
  | some ρ => if noLL ρ = true then .nx ((cutAl i ρ).set i (.ll (.li xss))) else .st
  | none => .st
def mkLL2 (i : Nat) (vs : List Nat) (ρ1 : Rho) (m : M (List D)) : Mo := match m with
  | .ok ys ρ2 => match listsOf ys with
    | some xss => mkLL3 i xss (setSl (restR ρ1 ρ2 vs) i .no)
    | none => .st
  | _ => .st
def mkLL1 (i : Nat) (vs : List Nat) (g : D → Rho → Option Rho) (oe : O Rs) (ds : List D) (ρ1 : Rho) : Mo :=
  if okW ρ1 vs = true ∧ ds.length ≤ 16000000 then mkLL2 i vs ρ1 (lcL vs g oYes (oNewL oe) ds (wipeR ρ1 vs)) else .st
def oMkLL (i : Nat) (vs : List Nat) (oi : O (List D)) (g : D → Rho → Option Rho) (oe : O Rs) : Os := fun ρ => (oi ρ).bindS (mkLL1 i vs g oe)
section
variable {K : PySem.W.Frag} {G : Gm} {Z : Hp} {ρ ρ' : Rho} {σ : St} {H H' : Hp} {fs vs : List Nat}
theorem FP.grow {fs : List Addr} {Z' : Hp} (F : FP K G Z ρ σ H fs) (L : LX K G Z ρ σ H) (g : Grow Z H Z' H') : FP K G Z' ρ σ H' fs := by
  refine ⟨fun b hb => let ⟨o, ho⟩ := F.o b hb; ⟨o, g.h _ _ ho⟩, fun b hb => ?_, F.g, fun b hb => (F.n b hb).heap L fun c o _ ho => g.h _ _ ho⟩
  cases q : Z' b with
  | none => rfl
  | some u =>
    obtain ⟨o, ho⟩ := F.o b hb
    rcases g.n b u q with q' | q'
    · rw [F.z b hb] at q'; cases q'
    · rw [ho] at q'; cases q'
theorem FP.wiped {fs : List Addr} (F : FP K G Z ρ σ H fs) : FP K G Z (wipeR ρ vs) (wipe σ vs) H fs := ⟨F.o, F.z, F.g, fun b hb => (F.n b hb).wipe⟩
/-- a thing beside the slots is written -/
theorem Sim.side {fs : List Addr} (S : Sim K G Z ρ σ H) (F : FP K G Z ρ σ H fs) {b : Addr} (hb : b ∈ fs) (o : HO) : Sim K G Z ρ σ (upd H b o) ∧ FP K G Z ρ σ (upd H b o) fs := by
  have nn := F.n b hb
  have keep : ∀ c u, InF ρ σ H c → H c = some u → upd H b o c = some u := fun c u f hu => by rw [upd_ne]; exact hu; intro e; subst e; exact nn.2 f
  refine ⟨⟨S.zz, fun c u q => ?_, fun c u q l => ?_, S.nw, S.pu, fun j p c q => ?_, S.ne, S.pin, S.len, S.lx.frame (fun _ _ e => ⟨e, rfl⟩) (fun _ _ _ e => ⟨e, rfl⟩) (.refl _) fun c u f zb gn w hu => ⟨keep c u f hu, zb, gn, w⟩⟩, ⟨fun c hc => ?_, F.z, F.g, fun c hc => (F.n c hc).heap S.lx keep⟩⟩
  · rw [upd_ne (ne_of_none q (F.z b hb))]; exact S.zh _ _ q
  · rw [upd_ne (ne_of_none q (F.g b hb))]; exact S.fr c u q l
  · obtain ⟨a', o', q', ho', r'⟩ := S.ow j p c q
    have hab : a' ≠ b := fun e' => by subst e'; exact nn.1 j p c q q'
    exact ⟨a', o', q', by rw [upd_ne hab]; exact ho', r'⟩
  · by_cases e : c = b
    · subst e; exact ⟨o, upd_same⟩
    · obtain ⟨u, hu⟩ := F.o c hc; exact ⟨u, by rw [upd_ne e]; exact hu⟩
theorem FP.put {fs : List Addr} {i : Nat} {v : V} (F : FP K G Z ρ σ H fs) (h : setSl ρ i .no = some ρ') : FP K G Z ρ' (σ.set i (some v)) H fs := by
  have e0 : ρ' = ρ.set i .no := by
    unfold setSl at h
    split at h
    · cases h
    · cases h; rfl
    · cases h
  subst e0
  have g : ∀ (j : Nat) s, (ρ.set i .no)[j]? = some s → s ≠ .no → j ≠ i ∧ ρ[j]? = some s := fun j s e n => by
    by_cases hj : j = i
    · subst hj
      by_cases hl : j < ρ.length
      · rw [List.getElem?_set_self hl] at e; cases e; exact absurd rfl n
      · rw [List.getElem?_eq_none (by rw [List.length_set]; omega)] at e; cases e
    · rw [List.getElem?_set_ne (Ne.symm hj)] at e; exact ⟨hj, e⟩
  refine ⟨F.o, F.z, F.g, fun b hb => ⟨fun j p c e q => ?_, fun f => ?_⟩⟩
  · obtain ⟨hj, e⟩ := g j _ e (by simp)
    rw [List.getElem?_set_ne (Ne.symm hj)] at q
    exact (F.n b hb).1 j p c e q
  · obtain ⟨j, xss, a, bs, e, q, h3, h4⟩ := f
    obtain ⟨hj, e⟩ := g j _ e (by simp)
    rw [List.getElem?_set_ne (Ne.symm hj)] at q
    exact (F.n b hb).2 ⟨j, xss, a, bs, e, q, h3, h4⟩
theorem FP.rests {fs : List Addr} {vs : List Nat} {ρ1 : Rho} {H1 : Hp} (hl : ρ1.length = ρ.length) (F : FP K G Z ρ (wipe σ vs) H fs) (hw : okW ρ1 vs = true) : FP K G Z (restR ρ1 ρ vs) σ H fs := by
  have g : ∀ (j : Nat) s, (restR ρ1 ρ vs)[j]? = some s → loose (some s) = false → j ∉ vs ∧ ρ[j]? = some s := fun j s e n => by
    rw [restR_get ρ1 ρ j hl] at e
    by_cases hj : j ∈ vs
    · rw [if_pos hj] at e
      have q := List.all_eq_true.mp hw j hj
      rw [e, n] at q
      cases q
    · rw [if_neg hj] at e; exact ⟨hj, e⟩
  refine ⟨F.o, F.z, F.g, fun b hb => ⟨fun j p c e q => ?_, fun f => ?_⟩⟩
  · obtain ⟨hj, e⟩ := g j _ e rfl
    exact (F.n b hb).1 j p c e (by rw [wipe_get, if_neg hj]; exact q)
  · obtain ⟨j, xss, a, bs, e, q, h3, h4⟩ := f
    obtain ⟨hj, e⟩ := g j _ e rfl
    exact (F.n b hb).2 ⟨j, xss, a, bs, e, by rw [wipe_get, if_neg hj]; exact q, h3, h4⟩
theorem paired_snoc {α β : Type} {P : α → β → Prop} {a : α} {b : β} (h : P a b) : ∀ {l : List α} {m : List β}, Paired P l m → Paired P (l ++ [a]) (m ++ [b])
  | _, _, .nil => .cons h .nil
  | _, _, .cons h1 r => .cons h1 (paired_snoc h r)
end
section
variable {X : Cx} {G : Gm} {B : Wish} {elt tg iter c : Expr} {ifs : List Expr} {scope : Scope} {own : List (Str × Nat)} {pos spos py : Pos} {T : List Nat} {oi : O (List D)} {g : D → Rho → Option Rho} {oe : O Rs}
theorem run_mkLL {K : PySem.W.Frag} {gg : TG} {tt : TT} {te : TE} {vs : List Nat} {σ : St} {H : Hp} {D : Ends} (i0 : Nat) (hT : ∀ t ∈ T, t ∈ vs)
    (hg : ∀ G v σ H Q, gRun K G T g v σ H Q → gg v σ H Q) (ht : ∀ G σ H Q, Run K G noB BoR oYes σ H Q → tt σ H Q) (he : ∀ G σ H Q, Run K G noB (RsR K G) oe σ H Q → te σ H Q)
    (w : RunS K G B (oMkLL i0 vs oi g oe) D σ H) : tAsg (tLc (fun σ H R => Run K G B (ItR K) oi σ H R) gg tt te vs) (gName i0) D σ H := by
  refine runS_bind (R := ItR K) (C := fun (J : It) H1 => ∀ L, H1 L = none → ∃ W : Nat → Nat → Hp → Prop, (∃ m, W 0 m (upd H1 L (.lst []))) ∧ ∀ i m H, W i m H →
      (J.stop i H ∧ gName i0 (.ref L) σ H D.nx) ∨ (J.go i H ∧ ∃ Nx : Hp → Prop, (∀ H', Nx H' → ∃ m', m' < m ∧ W (i + 1) m' H') ∧ ∀ x H', J.yld i H x H' → gg x (wipe σ vs) H' fun σ2 H2 => wipe σ2 vs = wipe σ vs ∧ tt σ2 H2 fun b H3 =>
        if b = true then te σ2 H3 fun y H4 => ∃ acc, H4 L = some (.lst acc) ∧ acc.length < sizeLine ∧ Nx (upd H4 L (.lst (acc ++ [y]))) else Nx H3)) w fun J ds ρ1 Z1 H1 S1 wd p1 => ?_
  intro L hL
  unfold mkLL1 at p1
  split at p1
  · rename_i hok
    obtain ⟨hw, hlen⟩ := hok
    cases hm : lcL vs g oYes (oNewL oe) ds (wipeR ρ1 vs) with
    | st => rw [hm] at p1; exact p1.elim
    | ex x ρ2 => rw [hm] at p1; exact p1.elim
    | ok ysF ρF =>
      rw [hm] at p1
      have p2 : PostS K G B Z1 (match listsOf ysF with | some xss => mkLL3 i0 xss (setSl (restR ρ1 ρF vs) i0 .no) | none => .st) D := p1
      cases hys : listsOf ysF with
      | none => rw [hys] at p2; exact p2.elim
      | some xssF =>
      rw [hys] at p2
      dsimp only at p2
      obtain ⟨Gd, Y, wk, h1, h2⟩ := wd
      have hv : ∀ v ∈ vs, ∀ x, (v, x) ∉ G.pins := fun v hv x hx => by
        obtain ⟨_, c, hc⟩ := S1.pin v x hx
        have q := List.all_eq_true.mp hw v hv
        rw [hc] at q
        cases q
      have S0 := S1.grow (.loose S1.zh hL (.lst []))
      have F0 : FP K G Z1 ρ1 σ (upd H1 L (.lst [])) [L] := by
        refine ⟨fun b hb => ?_, fun b hb => ?_, fun b hb => ?_, fun b hb => ?_⟩ <;> (rw [List.mem_singleton] at hb; subst hb)
        · exact ⟨_, upd_same⟩
        · exact S1.fresh hL
        · exact S1.freshIn hL
        · exact (S1.newA hL).heap S1.lx fun c o f ho => by rw [upd_ne]; exact ho; intro e; subst e; rw [hL] at ho; cases ho
      refine lc_it wk (fun i H => ∃ Z ρ bs acc ys, Sim K G Z ρ (wipe σ vs) H ∧ Same Z1 Z ∧ H L = some (.lst (bs.map V.ref)) ∧ Paired (fun b xs => ∃ us, H b = some (.lst us) ∧ RpAll K Z us xs) bs acc ∧ (L :: bs).Nodup ∧ FP K G Z ρ (wipe σ vs) H (L :: bs) ∧
        acc.length ≤ i ∧ lcL vs g oYes (oNewL oe) (ds.drop i) ρ = .ok ys ρF ∧ ysF = acc.map PyData.list ++ ys)
        ⟨Z1, wipeR ρ1 vs, [], [], ysF, S0.wipes hv, .refl _, upd_same, .nil, by simp, F0.wiped, Nat.le_refl _, by rw [List.drop_zero]; exact hm, rfl⟩ (fun i H' _ ⟨Z, ρ, bs, acc, ys, S, e, _⟩ => h1 H' (e.trans S.zh)) ?_ ?_
      · rintro i x H' H2 hi ⟨Z, ρ, bs, acc, ys, S, e, hacc, hp, nd, F, hal, hlc, hys'⟩ y
        obtain ⟨d, Z', hd, gr, rx⟩ := h2 i H' x H2 Z hi e S.zh y
        have hdr : ds.drop i = d :: ds.drop (i + 1) := by
          rw [List.drop_eq_getElem_cons hi]
          have q := (List.getElem?_eq_some_iff.mp hd).2
          rw [q]
        rw [hdr, lcL_cons] at hlc
        have S' := S.grow gr
        have F' := F.grow S.lx gr
        have FS' := S'.fixed F'
        have SG := S'.toGh F'
        cases hg1 : g d ρ with
        | none => rw [hg1] at hlc; cases hlc
        | some ρ2 =>
          rw [hg1] at hlc
          dsimp only at hlc
          refine hg (G.gh (L :: bs) H2) _ _ _ _ ⟨Z', ρ, d, ρ2, SG, rx, hg1, fun σ2 Z2 H3 hl2 hj2 e2 S2 => ?_⟩
          have hw2 : wipe σ2 vs = wipe σ vs := by
            rw [wipe_same hl2 fun j hj => hj2 j fun m => hj (hT j m), wipe_wipe]
          refine ⟨hw2, ht (G.gh (L :: bs) H2) _ _ _ ⟨Z2, ρ2, S2, ?_⟩⟩
          rw [oYes_eq] at hlc ⊢
          intro b' Z3 H4 e3 S3 rb
          have rb : b' = true := rb
          subst rb
          dsimp only at hlc
          rw [if_pos rfl]
          refine he (G.gh (L :: bs) H2) _ _ _ ⟨Z3, ρ2, S3, ?_⟩
          rw [show oNewL oe ρ2 = (oe ρ2).bind newL1 from rfl] at hlc
          cases he1 : oe ρ2 with
          | st => rw [he1] at hlc; cases hlc
          | ex x ρ4 => rw [he1] at hlc; cases hlc
          | ok r ρ4 =>
            rw [he1] at hlc
            cases r with
            | pu d => cases hlc
            | nw ct =>
              cases ct with
              | dk kvs => cases hlc
              | dt kvs => cases hlc
              | li nds =>
                rw [M.bind_ok, newL1_li] at hlc
                dsimp only at hlc
                intro yv Z4 H5 e4 S4 ry
                obtain ⟨S5, F5, hh⟩ := S4.ofGh FS'
                obtain ⟨nb, ob, rfl, hnb, cr, znb, gnb, nnb⟩ := ry
                cases ob with
                | lst us =>
                  have run : RpAll K Z4 us nds := cr
                  have nbf : nb ∉ L :: bs := fun hb => by
                    have e' : ovl G.H0 (L :: bs) H2 nb = none := gnb
                    rw [ovl_in hb] at e'
                    obtain ⟨o, ho⟩ := FS'.o nb hb
                    rw [ho] at e'
                    cases e'
                  have gnb' : G.H0 nb = none := by
                    have e' : ovl G.H0 (L :: bs) H2 nb = none := gnb
                    rw [ovl_out nbf] at e'
                    exact e'
                  have hL5 : H5 L = some (.lst (bs.map V.ref)) := by rw [hh L List.mem_cons_self]; exact gr.h _ _ hacc
                  cases hr : lcL vs g oYes (oNewL oe) (ds.drop (i + 1)) (wipeR ρ4 vs) with
                  | st => rw [hr] at hlc; cases hlc
                  | ex x ρ5 => rw [hr] at hlc; cases hlc
                  | ok ys' ρ5 =>
                    rw [hr] at hlc
                    cases hlc
                    have ea := gr.z.trans (e2.trans (e3.trans e4))
                    have hl : bs.length = acc.length := Paired.length hp
                    refine ⟨bs.map V.ref, hL5, lim_lt (by rw [List.length_map]; omega), ?_⟩
                    have F6 : FP K G Z4 ρ4 σ2 H5 (L :: (bs ++ [nb])) := by
                      have cut : ∀ c ∈ L :: (bs ++ [nb]), c ∈ L :: bs ∨ c = nb := fun c hc => by
                        rcases List.mem_cons.mp hc with rfl | hc
                        · exact .inl List.mem_cons_self
                        · rcases List.mem_append.mp hc with hc | hc
                          · exact .inl (List.mem_cons_of_mem _ hc)
                          · exact .inr (List.mem_singleton.mp hc)
                      refine ⟨fun c hc => ?_, fun c hc => ?_, fun c hc => ?_, fun c hc => ?_⟩ <;> rcases cut c hc with hc | rfl
                      · exact F5.o c hc
                      · exact ⟨_, hnb⟩
                      · exact F5.z c hc
                      · exact znb
                      · exact F5.g c hc
                      · exact gnb'
                      · exact F5.n c hc
                      · exact nnb
                    have S7 := S5.wipes hv
                    have F7 := F6.wiped (vs := vs)
                    rw [hw2] at S7 F7
                    obtain ⟨S8, F8⟩ := S7.side F7 (b := L) List.mem_cons_self (.lst (bs.map V.ref ++ [V.ref nb]))
                    have nd' : (L :: (bs ++ [nb])).Nodup := by
                      obtain ⟨n1, n2⟩ := List.nodup_cons.mp nd
                      refine List.nodup_cons.mpr ⟨fun hm => ?_, ?_⟩
                      · rcases List.mem_append.mp hm with hm | hm
                        · exact n1 hm
                        · exact nbf (by rw [List.mem_singleton.mp hm]; exact List.mem_cons_self)
                      · rw [List.nodup_append]
                        exact ⟨n2, by simp, fun a ha b hb => by rw [List.mem_singleton.mp hb]; intro e; subst e; exact nbf (List.mem_cons_of_mem _ ha)⟩
                    have nL : ∀ c ∈ bs ++ [nb], c ≠ L := fun c hc e => by subst e; exact (List.nodup_cons.mp nd').1 hc
                    refine ⟨Z4, wipeR ρ4 vs, bs ++ [nb], acc ++ [nds], ys', S8, e.trans ea, by rw [upd_same, List.map_append]; rfl, ?_, nd', F8, by simp; omega, hr, by rw [hys']; simp⟩
                    have q1 : Paired (fun c xs => ∃ us, H5 c = some (.lst us) ∧ RpAll K Z4 us xs) bs acc := paired_imp hp fun c xs hc ⟨us', w1, w2⟩ => ⟨us', by rw [hh c (List.mem_cons_of_mem _ hc)]; exact gr.h _ _ w1, w2.mono ea⟩
                    have q2 : Paired (fun c xs => ∃ us, H5 c = some (.lst us) ∧ RpAll K Z4 us xs) (bs ++ [nb]) (acc ++ [nds]) := paired_snoc ⟨us, hnb, run⟩ q1
                    exact paired_imp q2 fun c xs hc ⟨us', w1, w2⟩ => ⟨us', by rw [upd_ne (nL c hc)]; exact w1, w2⟩
                | _ => exact cr.elim
      · rintro H' ⟨Z, ρ, bs, acc, ys, S, e, hacc, hp, nd, F, hal, hlc, hys'⟩
        rw [List.drop_length] at hlc
        cases hlc
        rw [List.append_nil] at hys'
        subst hys'
        rw [listsOf_map] at hys
        cases hys
        have hl : ρ1.length = ρF.length := by rw [S1.len, S.len, wipe_length]
        have SR := S1.rests S e hw
        have FR := F.rests (H1 := H1) hl hw
        unfold mkLL3 at p2
        split at p2
        · rename_i ρ' hset
          split at p2
          · rename_i hno
            have SP := SR.put (v := .ref L) hset trivial
            have FP' := FR.put (v := .ref L) hset
            have hi0 : i0 < (restR ρ1 ρF vs).length ∧ ρ' = (restR ρ1 ρF vs).set i0 .no := by
              unfold setSl at hset
              split at hset
              · cases hset
              · rename_i s0 _ h0; cases hset; exact ⟨(List.getElem?_eq_some_iff.mp h0).1, rfl⟩
              · cases hset
            have hs0 : i0 < σ.length := by rw [← SR.len]; exact hi0.1
            have hno' : ρ'[i0]? = some Sl.no := by rw [hi0.2]; exact List.getElem?_set_self hi0.1
            exact p2 _ Z H' e (SP.putLL hno' hno (List.getElem?_set_self hs0) hacc hp nd FP')
          · exact p2.elim
        · exact p2.elim
  · exact p1.elim
theorem sd_mkLL (i : Nat) {y : Str} (hc : X.calm = true) (hN : X.N.Nodup) (hT : ∀ t ∈ T, t ∈ own.map (·.2)) (hy : X.N[i]? = some y) (hx : Loc X.env.scope y)
    (hsw : swapsWith (.ListComp elt [⟨tg, iter, [], 0⟩] scope pos) (some (.Name y py)) spos.line X.env = pure false) (hi : ID X G B tg iter oi) (ok : BlkOk X.N X.env.scope scope own)
    (hg : ∀ (s : Shared) (H : Hp) (C : Addr) (cl : List (Str × Addr)) (fp : List Addr) (G : Gm), GD (X.blk s H scope (compEnvC scope cl C X.env) fp) G tg T g)
    (he : ∀ (s : Shared) (H : Hp) (C : Addr) (cl : List (Str × Addr)) (fp : List Addr) (G : Gm), RD (X.blk s H scope (compEnvC scope cl C X.env) fp) G noB elt oe)
    (hs : ∀ x, foldedSetIterable iter X.env x = pure x := by intro _; rfl)
    (hf : X.fn y = true ∨ X.env.scope.names.lookup y = some .local := by first | exact .inl rfl | exact .inr rfl | assumption) : SD X G B (.Assign [.Name y py] (.ListComp elt [⟨tg, iter, [], 0⟩] scope pos) spos) (oMkLL i (own.map (·.2)) oi g oe) :=
by
  have hE : PE X (.ListComp elt [⟨tg, iter, [], 0⟩] scope pos) (tLc (fun σ H R => Run X.K G B (ItR X.K) oi σ H R) (fun v σ H Q => ∃ G, gRun X.K G T g v σ H Q) (fun σ H Q => ∃ G, Run X.K G noB BoR oYes σ H Q) (fun σ H Q => ∃ G, Run X.K G noB (RsR X.K G) oe σ H Q) (own.map (·.2))) :=
    pe_lc hc hN hi ok (fun s H C cl fp => ⟨fun pins s' σ H' v u Q I r ⟨G', w⟩ => (hg s H C cl fp G').run pins s' σ H' v u Q I r w⟩) (fun s H C cl fp => ⟨fun pins s' σ H' Q I ⟨G', w⟩ => (tsd_nil (G := G')).run pins s' σ H' Q I w⟩)
      (fun s H C cl fp => ⟨fun pins s' σ H' Q I ⟨G', w⟩ => (he s H C cl fp G').run pins s' σ H' Q I w⟩) hs
  exact ps_imp (ps_set hN hy hx hE hsw hf) fun D σ H w =>
    run_mkLL i hT (fun G _ _ _ _ w => ⟨G, w⟩) (fun G _ _ _ w => ⟨G, w⟩) (fun G _ _ _ w => ⟨G, w⟩) w
theorem sd_mkLLc (i : Nat) {y : Str} (hc : X.calm = true) (hN : X.N.Nodup) (hT : ∀ t ∈ T, t ∈ own.map (·.2)) (hy : X.N[i]? = some y) (hyl : X.env.scope.names.lookup y = some .local)
    (hsw : swapsWith (.ListComp elt [⟨tg, iter, [], 0⟩] scope pos) (some (.Name y py)) spos.line X.env = pure true) (hi : ID X G B tg iter oi) (ok : BlkOk X.N X.env.scope scope own)
    (hg : ∀ (s : Shared) (H : Hp) (C : Addr) (cl : List (Str × Addr)) (fp : List Addr) (G : Gm), GD (X.blk s H scope (compEnvC scope cl C X.env) fp) G tg T g)
    (he : ∀ (s : Shared) (H : Hp) (C : Addr) (cl : List (Str × Addr)) (fp : List Addr) (G : Gm), RD (X.blk s H scope (compEnvC scope cl C X.env) fp) G noB elt oe)
    (hs : ∀ x, foldedSetIterable iter X.env x = pure x := by intro _; rfl) : SD X G B (.Assign [.Name y py] (.ListComp elt [⟨tg, iter, [], 0⟩] scope pos) spos) (oMkLL i (own.map (·.2)) oi g oe) :=
  ps_imp (ps_setLc hc hN hy hyl hsw hi ok (g := fun v σ H Q => ∃ G, gRun X.K G T g v σ H Q) (tt := fun σ H Q => ∃ G, Run X.K G noB BoR oYes σ H Q) (te := fun σ H Q => ∃ G, Run X.K G noB (RsR X.K G) oe σ H Q)
    (fun s H C cl fp => ⟨fun pins s' σ H' v u Q I r ⟨G', w⟩ => (hg s H C cl fp G').run pins s' σ H' v u Q I r w⟩) (fun s H C cl fp => ⟨fun pins s' σ H' Q I ⟨G', w⟩ => (tsd_nil (G := G')).run pins s' σ H' Q I w⟩)
    (fun s H C cl fp => ⟨fun pins s' σ H' Q I ⟨G', w⟩ => (he s H C cl fp G').run pins s' σ H' Q I w⟩) hs) fun D σ H w =>
    run_mkLL i hT (fun G _ _ _ _ w => ⟨G, w⟩) (fun G _ _ _ w => ⟨G, w⟩) (fun G _ _ _ w => ⟨G, w⟩) w
end
end Ow
namespace Ow
open PySem L2
/-! ### comprehensions with two fors -/
def lcL2 (vs vs1 : List Nat) (g g1 : D → Rho → Option Rho) (ot ot1 : O Bool) (oi1 : O (List D)) (oe : O D) : List D → Rho → M (List D)
  | [], ρ => .ok [] ρ
  | d :: ds, ρ => match g d ρ with
    | none => .st
    | some ρ1 => match ot ρ1 with
      | .ok true ρ2 => match oi1 ρ2 with
        | .ok es ρ3 => match lcL vs1 g1 ot1 oe es (wipeR ρ3 vs1) with
          | .ok ys ρ4 => (lcL2 vs vs1 g g1 ot ot1 oi1 oe ds (wipeR ρ4 vs)).bind fun zs ρ5 => .ok (ys ++ zs) ρ5
          | _ => .st
        | _ => .st
      | .ok false ρ2 => lcL2 vs vs1 g g1 ot ot1 oi1 oe ds (wipeR ρ2 vs)
      | _ => .st
@[simp] theorem lcL2_nil (vs vs1 : List Nat) (g g1 : D → Rho → Option Rho) (ot ot1 : O Bool) (oi1 : O (List D)) (oe : O D) (ρ : Rho) : lcL2 vs vs1 g g1 ot ot1 oi1 oe [] ρ = .ok [] ρ := rfl
theorem lcL2_cons (vs vs1 : List Nat) (g g1 : D → Rho → Option Rho) (ot ot1 : O Bool) (oi1 : O (List D)) (oe : O D) (d : D) (ds : List D) (ρ : Rho) : lcL2 vs vs1 g g1 ot ot1 oi1 oe (d :: ds) ρ = match g d ρ with
    | none => .st
    | some ρ1 => match ot ρ1 with
      | .ok true ρ2 => match oi1 ρ2 with
        | .ok es ρ3 => match lcL vs1 g1 ot1 oe es (wipeR ρ3 vs1) with
          | .ok ys ρ4 => (lcL2 vs vs1 g g1 ot ot1 oi1 oe ds (wipeR ρ4 vs)).bind fun zs ρ5 => .ok (ys ++ zs) ρ5
          | _ => .st
        | _ => .st
      | .ok false ρ2 => lcL2 vs vs1 g g1 ot ot1 oi1 oe ds (wipeR ρ2 vs)
      | _ => .st := rfl
def lcE2 (vs : List Nat) (ρ1 : Rho) (m : M (List D)) : M Rs := match m with
  | .ok ys ρ2 => if ys.length ≤ 16000000 then .ok (.nw (.li ys)) (restR ρ1 ρ2 vs) else .st
  | _ => .st
def lc21 (vs vs1 : List Nat) (g g1 : D → Rho → Option Rho) (ot ot1 : O Bool) (oi1 : O (List D)) (oe : O D) (ds : List D) (ρ1 : Rho) : M Rs :=
  if okW ρ1 vs = true then lcE2 vs ρ1 (lcL2 vs vs1 g g1 ot ot1 oi1 oe ds (wipeR ρ1 vs)) else .st
def oLc2 (vs vs1 : List Nat) (oi : O (List D)) (g g1 : D → Rho → Option Rho) (ot ot1 : O Bool) (oi1 : O (List D)) (oe : O D) : O Rs := fun ρ => (oi ρ).bind (lc21 vs vs1 g g1 ot ot1 oi1 oe)
section
variable {X : Cx} {G : Gm} {B : Wish} {elt tg tg1 iter iter1 c : Expr} {ifs ifs1 : List Expr} {scope : Scope} {own : List (Str × Nat)} {pos spos py : Pos} {T T1 : List Nat} {oi oi1 : O (List D)} {g g1 : D → Rho → Option Rho} {ot ot1 : O Bool} {oe : O D}
theorem run_lc2 {K : PySem.W.Frag} {gg gg1 : TG} {tt tt1 : TT} {te : TE} {wi1 : TI} {vs vs1 : List Nat} {σ : St} {H : Hp} {Q : VK} (hT : ∀ t ∈ T, t ∈ vs) (hT1 : ∀ t ∈ T1, t ∈ vs1) (hvv : ∀ t ∈ vs1, t ∈ vs)
    (hg : ∀ G v σ H Q, gRun K G T g v σ H Q → gg v σ H Q) (ht : ∀ G σ H Q, Run K G noB BoR ot σ H Q → tt σ H Q) (hi1 : ∀ G σ H R, Run K G noB (ItR K) oi1 σ H R → wi1 σ H R)
    (hg1 : ∀ G v σ H Q, gRun K G T1 g1 v σ H Q → gg1 v σ H Q) (ht1 : ∀ G σ H Q, Run K G noB BoR ot1 σ H Q → tt1 σ H Q) (he : ∀ G σ H Q, Run K G noB (PuR K) oe σ H Q → te σ H Q)
    (w : Run K G B (RsR K G) (oLc2 vs vs1 oi g g1 ot ot1 oi1 oe) σ H Q) : tLc2 (fun σ H R => Run K G B (ItR K) oi σ H R) gg tt wi1 gg1 tt1 te vs vs1 σ H Q := by
  refine run_imp (R := ItR K) (C := fun (J : It) H1 => ∀ D, H1 D = none → ∃ W : Nat → Nat → Hp → Prop, (∃ m, W 0 m (upd H1 D (.lst []))) ∧ ∀ i m H, W i m H →
    (J.stop i H ∧ Q (.ref D) H) ∨ (J.go i H ∧ ∃ Nx : Hp → Prop, (∀ H', Nx H' → ∃ m', m' < m ∧ W (i + 1) m' H') ∧ ∀ x H', J.yld i H x H' → gg x (wipe σ vs) H' fun σ2 H2 => wipe σ2 vs = wipe σ vs ∧ tt σ2 H2 fun b H3 =>
      if b = true then wi1 σ2 H3 fun J1 H4 => ∃ W1 : Nat → Nat → Hp → Prop, (∃ m, W1 0 m H4) ∧ ∀ j k H, W1 j k H →
        (J1.stop j H ∧ Nx H) ∨ (J1.go j H ∧ ∃ Nx1 : Hp → Prop, (∀ H', Nx1 H' → ∃ k', k' < k ∧ W1 (j + 1) k' H') ∧ ∀ x H', J1.yld j H x H' → gg1 x (wipe σ2 vs1) H' fun σ3 H5 => wipe σ3 vs1 = wipe σ2 vs1 ∧ tt1 σ3 H5 fun b H6 =>
          if b = true then te σ3 H6 fun y H7 => ∃ acc, H7 D = some (.lst acc) ∧ acc.length < sizeLine ∧ Nx1 (upd H7 D (.lst (acc ++ [y]))) else Nx1 H6)
       else Nx H3)) w fun J ds ρ1 Z1 H1 S1 wd p1 => ?_
  intro L hL
  unfold lc21 at p1
  split at p1
  · rename_i hw
    cases hm : lcL2 vs vs1 g g1 ot ot1 oi1 oe ds (wipeR ρ1 vs) with
    | st => rw [hm] at p1; exact p1.elim
    | ex x ρ2 => rw [hm] at p1; exact p1.elim
    | ok ysF ρF =>
      rw [hm] at p1
      unfold lcE2 at p1
      dsimp only at p1
      split at p1
      · rename_i hlenF
        have p2 : Post K G B (RsR K G) σ Z1 (.ok (.nw (.li ysF)) (restR ρ1 ρF vs)) Q := p1
        obtain ⟨Gd, Y, wk, h1, h2⟩ := wd
        have zL : Z1 L = none := S1.fresh hL
        have gL : G.H0 L = none := S1.freshIn hL
        have z0L : G.Z0 L = none := none_of_same S1.zz zL
        have nS1 : NewA ρ1 σ H1 L := S1.newA hL
        have nl : ¬ G.lent L := S1.notLent nS1.1
        have hv : ∀ v ∈ vs, ∀ x, (v, x) ∉ G.pins := fun v hv x hx => by
          obtain ⟨_, c, hc⟩ := S1.pin v x hx
          have q := List.all_eq_true.mp hw v hv
          rw [hc] at q
          cases q
        have hv1 : ∀ v ∈ vs1, ∀ x, (v, x) ∉ G.pins := fun v h => hv v (hvv v h)
        have Sw : Sim K G Z1 (wipeR ρ1 vs) (wipe σ vs) (upd H1 L (.lst [])) := (S1.grow (.loose S1.zh hL (.lst []))).wipes hv
        have nSw : NewA (wipeR ρ1 vs) (wipe σ vs) (upd H1 L (.lst [])) L := (nS1.heap S1.lx (H' := upd H1 L (.lst [])) fun b o f ho => by rw [upd_ne]; exact ho; intro e; subst e; rw [hL] at ho; cases ho).wipe
        -- what holds ahead of a turn
        let Pv : Nat → Hp → Prop := fun i H => ∃ Z ρ acc accV ys, Sim K G Z ρ (wipe σ vs) H ∧ Same Z1 Z ∧ H L = some (.lst accV) ∧ RpAll K Z accV acc ∧ Z L = none ∧ NewA ρ (wipe σ vs) H L ∧
          lcL2 vs vs1 g g1 ot ot1 oi1 oe (ds.drop i) ρ = .ok ys ρF ∧ ysF = acc ++ ys
        refine ⟨fun i m H => m = ds.length - i ∧ i ≤ ds.length ∧ Pv i H, ⟨ds.length, by simp, Nat.zero_le _, Z1, wipeR ρ1 vs, [], [], ysF, Sw, .refl _, upd_same, .nil, zL, nSw, by rw [List.drop_zero]; exact hm, rfl⟩, ?_⟩
        rintro i m H' ⟨rfl, hin, Z, ρ, acc, accV, ys, S, e, hacc, racc, zz, nn, hlc, hys⟩
        have gd := h1 H' (e.trans S.zh)
        by_cases hi : i < ds.length
        · refine .inr ⟨wk.goes i H' hi gd, Pv (i + 1), fun H'' p' => ⟨ds.length - (i + 1), by omega, rfl, hi, p'⟩, fun x H2 yy => ?_⟩
          have y := wk.yields i H' x H2 hi gd yy
          obtain ⟨d, Z', hd, gr, rx⟩ := h2 i H' x H2 Z hi e S.zh y
          have hdr : ds.drop i = d :: ds.drop (i + 1) := by
            rw [List.drop_eq_getElem_cons hi]
            have q := (List.getElem?_eq_some_iff.mp hd).2
            rw [q]
          rw [hdr, lcL2_cons] at hlc
          have S' := S.grow gr
          have hacc' : H2 L = some (.lst accV) := gr.h _ _ hacc
          have zz' : Z' L = none := by
            cases q : Z' L with
            | none => rfl
            | some u =>
              rcases gr.n L u q with q' | q'
              · rw [zz] at q'; cases q'
              · rw [hacc] at q'; cases q'
          have nn' : NewA ρ (wipe σ vs) H2 L := nn.heap S.lx fun b o _ ho => gr.h _ _ ho
          have SG := S'.toGhost hacc' zz' nn'
          cases hg1' : g d ρ with
          | none => rw [hg1'] at hlc; cases hlc
          | some ρ2 =>
            rw [hg1'] at hlc
            dsimp only at hlc
            refine hg (G.ghost L (.lst accV)) _ _ _ _ ⟨Z', ρ, d, ρ2, SG, rx, hg1', fun σ2 Z2 H3 hl2 hj2 e2 S2 => ?_⟩
            have hw2 : wipe σ2 vs = wipe σ vs := by
              rw [wipe_same hl2 fun j hj => hj2 j fun m => hj (hT j m), wipe_wipe]
            refine ⟨hw2, ht (G.ghost L (.lst accV)) _ _ _ ⟨Z2, ρ2, S2, ?_⟩⟩
            cases ht1' : ot ρ2 with
            | st => rw [ht1'] at hlc; cases hlc
            | ex x ρ3 => rw [ht1'] at hlc; cases hlc
            | ok b ρ3 =>
              rw [ht1'] at hlc
              intro b' Z3 H4 e3 S3 rb
              have rb : b' = b := rb
              subst rb
              cases b' with
              | false =>
                dsimp only at hlc
                rw [if_neg Bool.false_ne_true]
                obtain ⟨S4, h4, z4, n4⟩ := S3.ofGhost gL z0L nl
                have S5 := S4.wipes hv
                rw [hw2] at S5
                exact ⟨Z3, wipeR ρ3 vs, acc, accV, ys, S5, e.trans (gr.z.trans (e2.trans e3)), h4, racc.mono (gr.z.trans (e2.trans e3)), z4, (by have q := n4.wipe (vs := vs); rw [hw2] at q; exact q), hlc, hys⟩
              | true =>
                dsimp only at hlc
                rw [if_pos rfl]
                refine hi1 (G.ghost L (.lst accV)) _ _ _ ⟨Z3, ρ3, S3, ?_⟩
                cases hoi : oi1 ρ3 with
                | st => rw [hoi] at hlc; cases hlc
                | ex x ρ4 => rw [hoi] at hlc; cases hlc
                | ok es ρ4 =>
                  rw [hoi] at hlc
                  dsimp only at hlc
                  intro J1 Z4 H5 e4 S4 wd1
                  obtain ⟨Gd1, Y1, wk1, k1, k2⟩ := wd1
                  obtain ⟨S5, h5, z5, n5⟩ := S4.ofGhost gL z0L nl
                  have ea := gr.z.trans (e2.trans (e3.trans e4))
                  cases hin1 : lcL vs1 g1 ot1 oe es (wipeR ρ4 vs1) with
                  | st => rw [hin1] at hlc; cases hlc
                  | ex x ρ5 => rw [hin1] at hlc; cases hlc
                  | ok ys1 ρ5 =>
                    rw [hin1] at hlc
                    dsimp only at hlc
                    cases hrest : lcL2 vs vs1 g g1 ot ot1 oi1 oe (ds.drop (i + 1)) (wipeR ρ5 vs) with
                    | st => rw [hrest] at hlc; cases hlc
                    | ex x ρ6 => rw [hrest] at hlc; cases hlc
                    | ok zs ρ6 =>
                      rw [hrest] at hlc
                      cases hlc
                      have hacl : acc.length + ys1.length ≤ 16000000 := by
                        rw [hys] at hlenF
                        simp at hlenF
                        omega
                      let P1 : Nat → Hp → Prop := fun j H => ∃ Z ρ acc1 accV1 ys2, Sim K G Z ρ (wipe σ2 vs1) H ∧ Same Z4 Z ∧ H L = some (.lst accV1) ∧ RpAll K Z accV1 acc1 ∧ Z L = none ∧ NewA ρ (wipe σ2 vs1) H L ∧
                        lcL vs1 g1 ot1 oe (es.drop j) ρ = .ok ys2 ρ5 ∧ acc ++ ys1 = acc1 ++ ys2
                      have S6 := S5.wipes hv1
                      have n6 := n5.wipe (vs := vs1)
                      refine ⟨fun j k H => k = es.length - j ∧ j ≤ es.length ∧ P1 j H, ⟨es.length, by simp, Nat.zero_le _, Z4, wipeR ρ4 vs1, acc, accV, ys1, S6, .refl _, h5, racc.mono ea, z5, n6, by rw [List.drop_zero]; exact hin1, rfl⟩, ?_⟩
                      rintro j k H6 ⟨rfl, hjn, Z6, ρ6, acc1, accV1, ys2, S7, e7, hacc1, racc1, zz1, nn1, hlc1, hys1⟩
                      have gd1 := k1 H6 (e7.trans S7.zh)
                      by_cases hj : j < es.length
                      · refine .inr ⟨wk1.goes j H6 hj gd1, P1 (j + 1), fun H'' p' => ⟨es.length - (j + 1), by omega, rfl, hj, p'⟩, fun x1 H7 yy1 => ?_⟩
                        have y1 := wk1.yields j H6 x1 H7 hj gd1 yy1
                        obtain ⟨d1, Z7, hd1, gr1, rx1⟩ := k2 j H6 x1 H7 Z6 hj e7 S7.zh y1
                        have hdr1 : es.drop j = d1 :: es.drop (j + 1) := by
                          rw [List.drop_eq_getElem_cons hj]
                          have q := (List.getElem?_eq_some_iff.mp hd1).2
                          rw [q]
                        rw [hdr1, lcL_cons] at hlc1
                        have S8 := S7.grow gr1
                        have hacc8 : H7 L = some (.lst accV1) := gr1.h _ _ hacc1
                        have zz8 : Z7 L = none := by
                          cases q : Z7 L with
                          | none => rfl
                          | some u =>
                            rcases gr1.n L u q with q' | q'
                            · rw [zz1] at q'; cases q'
                            · rw [hacc1] at q'; cases q'
                        have nn8 : NewA ρ6 (wipe σ2 vs1) H7 L := nn1.heap S7.lx fun b o _ ho => gr1.h _ _ ho
                        have SG8 := S8.toGhost hacc8 zz8 nn8
                        cases hgg : g1 d1 ρ6 with
                        | none => rw [hgg] at hlc1; cases hlc1
                        | some ρ7 =>
                          rw [hgg] at hlc1
                          dsimp only at hlc1
                          refine hg1 (G.ghost L (.lst accV1)) _ _ _ _ ⟨Z7, ρ6, d1, ρ7, SG8, rx1, hgg, fun σ3 Z8 H8 hl3 hj3 e8 S9 => ?_⟩
                          have hw3 : wipe σ3 vs1 = wipe σ2 vs1 := by
                            rw [wipe_same hl3 fun j hj => hj3 j fun m => hj (hT1 j m), wipe_wipe]
                          refine ⟨hw3, ht1 (G.ghost L (.lst accV1)) _ _ _ ⟨Z8, ρ7, S9, ?_⟩⟩
                          cases htt : ot1 ρ7 with
                          | st => rw [htt] at hlc1; cases hlc1
                          | ex x ρ8 => rw [htt] at hlc1; cases hlc1
                          | ok b ρ8 =>
                            rw [htt] at hlc1
                            intro b' Z9 H9 e9 S10 rb
                            have rb : b' = b := rb
                            subst rb
                            cases b' with
                            | false =>
                              dsimp only at hlc1
                              rw [if_neg Bool.false_ne_true]
                              obtain ⟨S11, h11, z11, n11⟩ := S10.ofGhost gL z0L nl
                              have S12 := S11.wipes hv1
                              rw [hw3] at S12
                              exact ⟨Z9, wipeR ρ8 vs1, acc1, accV1, ys2, S12, e7.trans (gr1.z.trans (e8.trans e9)), h11, racc1.mono (gr1.z.trans (e8.trans e9)), z11, (by have q := n11.wipe (vs := vs1); rw [hw3] at q; exact q), hlc1, hys1⟩
                            | true =>
                              dsimp only at hlc1
                              rw [if_pos rfl]
                              refine he (G.ghost L (.lst accV1)) _ _ _ ⟨Z9, ρ8, S10, ?_⟩
                              cases hoe : oe ρ8 with
                              | st => rw [hoe] at hlc1; cases hlc1
                              | ex x ρ9 => rw [hoe] at hlc1; cases hlc1
                              | ok y2 ρ9 =>
                                rw [hoe] at hlc1
                                dsimp only at hlc1
                                intro yv Z10 H10 e10 S11 ry
                                have ry : Rp K Z10 yv y2 := ry
                                obtain ⟨S12, h12, z12, n12⟩ := S11.ofGhost gL z0L nl
                                cases hr : lcL vs1 g1 ot1 oe (es.drop (j + 1)) (wipeR ρ9 vs1) with
                                | st => rw [hr] at hlc1; cases hlc1
                                | ex x ρ10 => rw [hr] at hlc1; cases hlc1
                                | ok ys3 ρ10 =>
                                  rw [hr] at hlc1
                                  cases hlc1
                                  have eb := gr1.z.trans (e8.trans (e9.trans e10))
                                  have hal' : accV1.length = acc1.length := racc1.length
                                  have hll := congrArg List.length hys1
                                  simp at hll
                                  refine ⟨accV1, h12, lim_lt (by omega), ?_⟩
                                  have S13 := S12.wipes hv1
                                  have n13 : NewA (wipeR ρ9 vs1) (wipe σ2 vs1) H10 L := by have q := n12.wipe (vs := vs1); rw [hw3] at q; exact q
                                  rw [hw3] at S13
                                  have F13 : FP K G Z10 (wipeR ρ9 vs1) (wipe σ2 vs1) H10 [L] := by
                                    refine ⟨fun b hb => ?_, fun b hb => ?_, fun b hb => ?_, fun b hb => ?_⟩ <;> (rw [List.mem_singleton] at hb; subst hb)
                                    · exact ⟨_, h12⟩
                                    · exact z12
                                    · exact gL
                                    · exact n13
                                  obtain ⟨S14, F14⟩ := S13.side F13 (b := L) List.mem_cons_self (.lst (accV1 ++ [yv]))
                                  exact ⟨Z10, wipeR ρ9 vs1, acc1 ++ [y2], accV1 ++ [yv], ys3, S14, e7.trans eb, upd_same, (racc1.mono eb).append (.one ry), z12, F14.n L List.mem_cons_self, hr, by rw [hys1]; simp⟩
                      · have hje : j = es.length := by omega
                        subst hje
                        refine .inl ⟨wk1.stops H6 gd1, ?_⟩
                        rw [List.drop_length] at hlc1
                        cases hlc1
                        rw [List.append_nil] at hys1
                        have S8 := S7.wipes hv
                        have n8 := nn1.wipe (vs := vs)
                        have hw3 : wipe (wipe σ2 vs1) vs = wipe σ vs := by
                          rw [← hw2]
                          refine wipe_same (by rw [wipe_length]) fun j hj => ?_
                          rw [wipe_get, if_neg fun m => hj (hvv j m)]
                        rw [hw3] at S8 n8
                        exact ⟨Z6, wipeR ρ5 vs, acc1, accV1, zs, S8, e.trans (ea.trans e7), hacc1, racc1, zz1, n8, hrest, by rw [hys, ← hys1, List.append_assoc]⟩
        · have hie : i = ds.length := by omega
          subst hie
          refine .inl ⟨wk.stops H' gd, ?_⟩
          rw [List.drop_length] at hlc
          cases hlc
          rw [List.append_nil] at hys
          subst hys
          have SR := S1.rests S e hw
          have F : FP K G Z ρF (wipe σ vs) H' [L] := by
            refine ⟨fun b hb => ?_, fun b hb => ?_, fun b hb => ?_, fun b hb => ?_⟩ <;> (rw [List.mem_singleton] at hb; subst hb)
            · exact ⟨_, hacc⟩
            · exact zz
            · exact gL
            · exact nn
          have FR := F.rests (H1 := H1) (ρ1 := ρ1) (by rw [S1.len, S.len, wipe_length]) hw
          exact p2 (.ref L) Z H' e SR ⟨L, .lst accV, rfl, hacc, racc, zz, gL, FR.n L List.mem_cons_self⟩
      · exact p1.elim
  · exact p1.elim
theorem rd_lc2 (vs1 : List Nat) (hc : X.calm = true) (hN : X.N.Nodup) (hT : ∀ t ∈ T, t ∈ own.map (·.2)) (hT1 : ∀ t ∈ T1, t ∈ vs1) (hvv : ∀ t ∈ vs1, t ∈ own.map (·.2)) (hi : ID X G B tg iter oi) (ok : BlkOk X.N X.env.scope scope own)
    (hg : ∀ (s : Shared) (H : Hp) (C : Addr) (cl : List (Str × Addr)) (fp : List Addr) (G : Gm), GD (X.blk s H scope (compEnvC scope cl C X.env) fp) G tg T g)
    (ht : ∀ (s : Shared) (H : Hp) (C : Addr) (cl : List (Str × Addr)) (fp : List Addr) (G : Gm), TSD (X.blk s H scope (compEnvC scope cl C X.env) fp) G noB ifs ot)
    (hi1 : ∀ (s : Shared) (H : Hp) (C : Addr) (cl : List (Str × Addr)) (fp : List Addr) (G : Gm), ID (X.blk s H scope (compEnvC scope cl C X.env) fp) G noB tg1 iter1 oi1)
    (hg1 : ∀ (s : Shared) (H : Hp) (C : Addr) (cl : List (Str × Addr)) (fp : List Addr) (G : Gm), GD (X.blk s H scope (compEnvC scope cl C X.env) fp) G tg1 T1 g1)
    (ht1 : ∀ (s : Shared) (H : Hp) (C : Addr) (cl : List (Str × Addr)) (fp : List Addr) (G : Gm), TSD (X.blk s H scope (compEnvC scope cl C X.env) fp) G noB ifs1 ot1)
    (he : ∀ (s : Shared) (H : Hp) (C : Addr) (cl : List (Str × Addr)) (fp : List Addr) (G : Gm), PD (X.blk s H scope (compEnvC scope cl C X.env) fp) G noB elt oe)
    (hs : ∀ x, foldedSetIterable iter X.env x = pure x := by intro _; rfl) (hs1 : ∀ env x, foldedSetIterable iter1 env x = pure x := by intro _ _; rfl) :
    RD X G B (.ListComp elt [⟨tg, iter, ifs, 0⟩, ⟨tg1, iter1, ifs1, 0⟩] scope pos) (oLc2 (own.map (·.2)) vs1 oi g g1 ot ot1 oi1 oe) := by
  have hE : PE X (.ListComp elt [⟨tg, iter, ifs, 0⟩, ⟨tg1, iter1, ifs1, 0⟩] scope pos) (tLc2 (fun σ H R => Run X.K G B (ItR X.K) oi σ H R) (fun v σ H Q => ∃ G, gRun X.K G T g v σ H Q) (fun σ H Q => ∃ G, Run X.K G noB BoR ot σ H Q)
      (fun σ H R => ∃ G, Run X.K G noB (ItR X.K) oi1 σ H R) (fun v σ H Q => ∃ G, gRun X.K G T1 g1 v σ H Q) (fun σ H Q => ∃ G, Run X.K G noB BoR ot1 σ H Q) (fun σ H Q => ∃ G, Run X.K G noB (PuR X.K) oe σ H Q) (own.map (·.2)) vs1) :=
    pe_lc2 hc hN hi ok hvv (fun s H C cl fp => ⟨fun pins s' σ H' v u Q I r ⟨G', w⟩ => (hg s H C cl fp G').run pins s' σ H' v u Q I r w⟩) (fun s H C cl fp => ⟨fun pins s' σ H' Q I ⟨G', w⟩ => (ht s H C cl fp G').run pins s' σ H' Q I w⟩)
      (fun s H C cl fp => ⟨fun pins s' σ H' R I ⟨G', w⟩ => (hi1 s H C cl fp G').run pins s' σ H' R I w⟩) (fun s H C cl fp => ⟨fun pins s' σ H' v u Q I r ⟨G', w⟩ => (hg1 s H C cl fp G').run pins s' σ H' v u Q I r w⟩) (fun s H C cl fp => ⟨fun pins s' σ H' Q I ⟨G', w⟩ => (ht1 s H C cl fp G').run pins s' σ H' Q I w⟩)
      (fun s H C cl fp => ⟨fun pins s' σ H' Q I ⟨G', w⟩ => (he s H C cl fp G').run pins s' σ H' Q I w⟩) hs hs1
  exact pe_imp hE fun σ H Q w => run_lc2 hT hT1 hvv (fun G _ _ _ _ w => ⟨G, w⟩) (fun G _ _ _ w => ⟨G, w⟩) (fun G _ _ _ w => ⟨G, w⟩) (fun G _ _ _ _ w => ⟨G, w⟩) (fun G _ _ _ w => ⟨G, w⟩) (fun G _ _ _ w => ⟨G, w⟩) w
theorem sd_setLc2 (i : Nat) (vs1 : List Nat) {y : Str} (hc : X.calm = true) (hN : X.N.Nodup) (hT : ∀ t ∈ T, t ∈ own.map (·.2)) (hT1 : ∀ t ∈ T1, t ∈ vs1) (hvv : ∀ t ∈ vs1, t ∈ own.map (·.2)) (hy : X.N[i]? = some y) (hyl : X.env.scope.names.lookup y = some .local)
    (hsw : swapsWith (.ListComp elt [⟨tg, iter, ifs, 0⟩, ⟨tg1, iter1, ifs1, 0⟩] scope pos) (some (.Name y py)) spos.line X.env = pure true) (hi : ID X G B tg iter oi) (ok : BlkOk X.N X.env.scope scope own)
    (hg : ∀ (s : Shared) (H : Hp) (C : Addr) (cl : List (Str × Addr)) (fp : List Addr) (G : Gm), GD (X.blk s H scope (compEnvC scope cl C X.env) fp) G tg T g)
    (ht : ∀ (s : Shared) (H : Hp) (C : Addr) (cl : List (Str × Addr)) (fp : List Addr) (G : Gm), TSD (X.blk s H scope (compEnvC scope cl C X.env) fp) G noB ifs ot)
    (hi1 : ∀ (s : Shared) (H : Hp) (C : Addr) (cl : List (Str × Addr)) (fp : List Addr) (G : Gm), ID (X.blk s H scope (compEnvC scope cl C X.env) fp) G noB tg1 iter1 oi1)
    (hg1 : ∀ (s : Shared) (H : Hp) (C : Addr) (cl : List (Str × Addr)) (fp : List Addr) (G : Gm), GD (X.blk s H scope (compEnvC scope cl C X.env) fp) G tg1 T1 g1)
    (ht1 : ∀ (s : Shared) (H : Hp) (C : Addr) (cl : List (Str × Addr)) (fp : List Addr) (G : Gm), TSD (X.blk s H scope (compEnvC scope cl C X.env) fp) G noB ifs1 ot1)
    (he : ∀ (s : Shared) (H : Hp) (C : Addr) (cl : List (Str × Addr)) (fp : List Addr) (G : Gm), PD (X.blk s H scope (compEnvC scope cl C X.env) fp) G noB elt oe)
    (hs : ∀ x, foldedSetIterable iter X.env x = pure x := by intro _; rfl) (hs1 : ∀ env x, foldedSetIterable iter1 env x = pure x := by intro _ _; rfl) :
    SD X G B (.Assign [.Name y py] (.ListComp elt [⟨tg, iter, ifs, 0⟩, ⟨tg1, iter1, ifs1, 0⟩] scope pos) spos) (oSet i (oLc2 (own.map (·.2)) vs1 oi g g1 ot ot1 oi1 oe)) := by
  have hE : PS X (.Assign [.Name y py] (.ListComp elt [⟨tg, iter, ifs, 0⟩, ⟨tg1, iter1, ifs1, 0⟩] scope pos) spos) (tAsg (tLc2 (fun σ H R => Run X.K G B (ItR X.K) oi σ H R) (fun v σ H Q => ∃ G, gRun X.K G T g v σ H Q) (fun σ H Q => ∃ G, Run X.K G noB BoR ot σ H Q)
      (fun σ H R => ∃ G, Run X.K G noB (ItR X.K) oi1 σ H R) (fun v σ H Q => ∃ G, gRun X.K G T1 g1 v σ H Q) (fun σ H Q => ∃ G, Run X.K G noB BoR ot1 σ H Q) (fun σ H Q => ∃ G, Run X.K G noB (PuR X.K) oe σ H Q) (own.map (·.2)) vs1) (gName i)) :=
    ps_setLc2 hc hN hy hyl hsw hi ok hvv (fun s H C cl fp => ⟨fun pins s' σ H' v u Q I r ⟨G', w⟩ => (hg s H C cl fp G').run pins s' σ H' v u Q I r w⟩) (fun s H C cl fp => ⟨fun pins s' σ H' Q I ⟨G', w⟩ => (ht s H C cl fp G').run pins s' σ H' Q I w⟩)
      (fun s H C cl fp => ⟨fun pins s' σ H' R I ⟨G', w⟩ => (hi1 s H C cl fp G').run pins s' σ H' R I w⟩) (fun s H C cl fp => ⟨fun pins s' σ H' v u Q I r ⟨G', w⟩ => (hg1 s H C cl fp G').run pins s' σ H' v u Q I r w⟩) (fun s H C cl fp => ⟨fun pins s' σ H' Q I ⟨G', w⟩ => (ht1 s H C cl fp G').run pins s' σ H' Q I w⟩)
      (fun s H C cl fp => ⟨fun pins s' σ H' Q I ⟨G', w⟩ => (he s H C cl fp G').run pins s' σ H' Q I w⟩) hs hs1
  exact ps_imp hE fun D σ H w => run_lc2 (Q := fun x H1 => gName i x σ H1 D.nx) hT hT1 hvv (fun G _ _ _ _ w => ⟨G, w⟩) (fun G _ _ _ w => ⟨G, w⟩) (fun G _ _ _ w => ⟨G, w⟩) (fun G _ _ _ _ w => ⟨G, w⟩) (fun G _ _ _ w => ⟨G, w⟩) (fun G _ _ _ w => ⟨G, w⟩) (asg_name w)
end
end Ow
namespace Ow
open PySem L2
/-! ### plain programs with lists of own lists, on a written state -/
section
variable (z : Sl) (ρ : Rho)
@[simp] theorem ap_frzLL (k : Nat) : oFrzLL k (z :: ρ) = match (z :: ρ)[k]? with
  | some (.ll (.li xss)) => .ok (.list (xss.map PyData.list)) ((cutAl k (z :: ρ)).set k (.pu (.list (xss.map PyData.list))))
  | _ => .st := rfl
@[simp] theorem ap_lenLL (k : Nat) : oLenLL k (z :: ρ) = match (z :: ρ)[k]? with
  | some (.ll (.li xss)) => .ok (.int xss.length) (z :: ρ)
  | _ => .st := rfl
@[simp] theorem ap_appLL (k : Nat) (oi oe : O D) : oAppLL k oi oe (z :: ρ) = match (z :: ρ)[k]? with
  | some (.ll (.li _)) => (oi (z :: ρ)).bind (appLL1 k oe)
  | _ => .st := rfl
@[simp] theorem appLL1_eq (k : Nat) (oe : O D) (n : Int) : appLL1 k oe (.int n) (z :: ρ) = match (z :: ρ)[k]? with
  | some (.ll (.li xss)) => (match ixN xss.length n with
    | some j => appLL2 k j xss (oe ((cutAl k (z :: ρ)).set k .no))
    | none => .st)
  | _ => .st := by
  unfold appLL1
  cases (z :: ρ)[k]? with
  | none => rfl
  | some s =>
    cases s with
    | ll m => cases m <;> rfl
    | _ => rfl
@[simp] theorem appLL2_eq (k j : Nat) (xss : List (List D)) (d : D) : appLL2 k j xss (.ok d (z :: ρ)) = match (z :: ρ)[k]?, noLL (z :: ρ), xss[j]? with
    | some .no, true, some xs => if xs.length < 16000000 then .ok .none ((cutAl k (z :: ρ)).set k (.ll (.li (xss.set j (xs ++ [d]))))) else .st
    | _, _, _ => .st := rfl
@[simp] theorem ap_alias (i k : Nat) (oi : O D) : oAlias i k oi (z :: ρ) = match (z :: ρ)[k]? with
  | some (.ll (.li _)) => (oi (z :: ρ)).bindS (alias1 i k)
  | _ => .st := rfl
@[simp] theorem alias1_eq (i k : Nat) (n : Int) : alias1 i k (.int n) (z :: ρ) = match (z :: ρ)[k]? with
  | some (.ll (.li xss)) => (match ixN xss.length n with
    | some j => if i ≠ k then nx1 (setSl (z :: ρ) i (.al k j)) else .st
    | none => .st)
  | _ => .st := by
  unfold alias1
  cases (z :: ρ)[k]? with
  | none => rfl
  | some s =>
    cases s with
    | ll m => cases m <;> rfl
    | _ => rfl
@[simp] theorem ap_alK (i : Nat) (f : Ct → List D → Option (Ct × D)) (oas : O (List D)) : oAlK i f oas (z :: ρ) = match (z :: ρ)[i]? with
  | some (.al k j) => (match (z :: ρ)[k]? with
    | some (.ll (.li _)) => (oas (z :: ρ)).bind (alK1 i f)
    | _ => .st)
  | _ => .st := rfl
@[simp] theorem alK1_eq (i : Nat) (f : Ct → List D → Option (Ct × D)) (ds : List D) : alK1 i f ds (z :: ρ) = match (z :: ρ)[i]? with
  | some (.al k j) => (match (z :: ρ)[k]? with
    | some (.ll (.li xss)) => (match xss[j]? with
      | some xs => (match f (.li xs) ds with
        | some (.li ys, d) => .ok d ((z :: ρ).set k (.ll (.li (xss.set j ys))))
        | _ => .st)
      | none => .st)
    | _ => .st)
  | _ => .st := rfl
@[simp] theorem ap_stAl (i : Nat) (ov oi : O D) : oStAl i ov oi (z :: ρ) = (ov (z :: ρ)).bindS fun d ρ1 => match ρ1[i]? with
  | some (.al k j) => (match ρ1[k]? with
    | some (.ll (.li _)) => (oi ρ1).bindS (stAl1 i d)
    | _ => .st)
  | _ => .st := rfl
@[simp] theorem stAl1_eq (i : Nat) (d iv : D) : stAl1 i d iv (z :: ρ) = match (z :: ρ)[i]? with
  | some (.al k j) => (match (z :: ρ)[k]? with
    | some (.ll (.li xss)) => (match xss[j]? with
      | some xs => (match stL xs iv d with
        | some (.li ys) => .nx ((z :: ρ).set k (.ll (.li (xss.set j ys))))
        | _ => .st)
      | none => .st)
    | _ => .st)
  | _ => .st := rfl
@[simp] theorem ap_appPop (k i q : Nat) (oi : O D) : oAppPop k i q oi (z :: ρ) = match (z :: ρ)[k]? with
  | some (.ll (.li _)) => (oi (z :: ρ)).bind (appPop1 k i q)
  | _ => .st := rfl
@[simp] theorem appPop1_eq (k i q : Nat) (n : Int) : appPop1 k i q (.int n) (z :: ρ) = match (z :: ρ)[k]? with
  | some (.ll (.li xss)) => (match ixN xss.length n, (z :: ρ)[i]?, (z :: ρ)[q]? with
    | some j, some (.al k' m), some (.pu (.int p)) => if k' = k then appPop3 k j m p xss (z :: ρ) else .st
    | _, _, _ => .st)
  | _ => .st := by
  unfold appPop1
  cases (z :: ρ)[k]? with
  | none => rfl
  | some s =>
    cases s with
    | ll m => cases m <;> rfl
    | _ => rfl
@[simp] theorem ap_mkLL (i : Nat) (vs : List Nat) (oi : O (List D)) (g : D → Rho → Option Rho) (oe : O Rs) : oMkLL i vs oi g oe (z :: ρ) = (oi (z :: ρ)).bindS (mkLL1 i vs g oe) := rfl
theorem mkLL1_eq (i : Nat) (vs : List Nat) (g : D → Rho → Option Rho) (oe : O Rs) (ds : List D) (ρ1 : Rho) : mkLL1 i vs g oe ds ρ1 =
  if okW ρ1 vs = true ∧ ds.length ≤ 16000000 then mkLL2 i vs ρ1 (lcL vs g oYes (oNewL oe) ds (wipeR ρ1 vs)) else .st := rfl
@[simp] theorem mkLL2_ok (i : Nat) (vs : List Nat) (ρ1 ρ2 : Rho) (ys : List D) : mkLL2 i vs ρ1 (.ok ys ρ2) = match listsOf ys with
    | some xss => mkLL3 i xss (setSl (restR ρ1 ρ2 vs) i .no)
    | none => .st := rfl
@[simp] theorem mkLL3_some (i : Nat) (xss : List (List D)) (ρ : Rho) : mkLL3 i xss (some ρ) = if noLL ρ = true then .nx ((cutAl i ρ).set i (.ll (.li xss))) else .st := rfl
@[simp] theorem ap_newL (oe : O Rs) : oNewL oe (z :: ρ) = (oe (z :: ρ)).bind newL1 := rfl
@[simp] theorem ap_lc2 (vs vs1 : List Nat) (oi : O (List D)) (g g1 : D → Rho → Option Rho) (ot ot1 : O Bool) (oi1 : O (List D)) (oe : O D) : oLc2 vs vs1 oi g g1 ot ot1 oi1 oe (z :: ρ) = (oi (z :: ρ)).bind (lc21 vs vs1 g g1 ot ot1 oi1 oe) := rfl
theorem lc21_eq (vs vs1 : List Nat) (g g1 : D → Rho → Option Rho) (ot ot1 : O Bool) (oi1 : O (List D)) (oe : O D) (ds : List D) (ρ1 : Rho) : lc21 vs vs1 g g1 ot ot1 oi1 oe ds ρ1 =
  if okW ρ1 vs = true then lcE2 vs ρ1 (lcL2 vs vs1 g g1 ot ot1 oi1 oe ds (wipeR ρ1 vs)) else .st := rfl
@[simp] theorem lcE2_ok (vs : List Nat) (ρ1 ρ2 : Rho) (ys : List D) : lcE2 vs ρ1 (.ok ys ρ2) = if ys.length ≤ 16000000 then .ok (.nw (.li ys)) (restR ρ1 ρ2 vs) else .st := rfl
end
end Ow
namespace Ow
open PySem L2
/-! ### a dict of dicts of lists: built by setdefault, then still -/
theorem cutAl_set (i k : Nat) : ∀ (l : Rho), cutAl i (l.set k .no) = (cutAl i l).set k .no := by
  intro l
  induction l generalizing k with
  | nil => rfl
  | cons s l ih =>
    cases k with
    | zero => cases s <;> rfl
    | succ k => cases s <;> simp [ih k]
theorem cutAl_cut (i : Nat) : ∀ (l : Rho), cutAl i (cutAl i l) = cutAl i l := by
  intro l
  induction l with
  | nil => rfl
  | cons s l ih =>
    cases s with
    | al k j =>
      rw [cutAl_al]
      by_cases h : k = i
      · rw [if_pos h, cutAl_no, ih]
      · rw [if_neg h, cutAl_al, if_neg h, ih]
    | _ => simp [ih]
theorem noLL_of : ∀ {ρ : Rho}, (∀ (j : Nat) n, ρ[j]? ≠ some (Sl.ll n)) → noLL ρ = true
  | [], _ => rfl
  | s :: ρ, h => by
    have ih := noLL_of (ρ := ρ) fun j n e => h (j + 1) n (by simpa using e)
    cases s with
    | ll n => exact absurd rfl (h 0 n)
    | _ => exact ih
section
variable {K : PySem.W.Frag} {G : Gm} {Z : Hp} {ρ ρ' : Rho} {σ : St} {H H' : Hp} {k : Nat} {n n' : Nt} {v : V} {fs fs' : List Addr}
theorem Sim.reN (S : Sim K G Z ρ σ H) (h : ρ[k]? = some (Sl.ll n)) (A : LLat K G Z ρ σ H k v fs n) (hout : ∀ c u, c ∉ fs' → H c = some u → H' c = some u) (hnew : ∀ b ∈ fs', b ∈ fs ∨ H b = none)
    (r : NR (RpAll K Z) H' v n' fs') (nd : fs'.Nodup) : Sim K G Z ((cutAl k ρ).set k (.ll n')) σ H' := by
  obtain ⟨S1, F⟩ := S.dropN h A
  have hk' : k < (cutAl k ρ).length := by rw [cutAl_length]; exact (List.getElem?_eq_some_iff.mp h).1
  have nl : ∀ (j : Nat) m, ((cutAl k ρ).set k .no)[j]? ≠ some (Sl.ll m) := fun j m e => by
    by_cases hj : j = k
    · subst hj; rw [List.getElem?_set_self hk'] at e; cases e
    · rw [List.getElem?_set_ne (Ne.symm hj)] at e
      exact hj (S.lx.one j k _ _ ((cutAl_get k rfl (by simp) ρ j).mp e) h)
  have away : ∀ c u, (c ∈ fs → False) → H c = some u → c ∉ fs' := fun c u h1 h2 hc => by
    rcases hnew c hc with q | q
    · exact h1 q
    · rw [q] at h2; cases h2
  have S2 : Sim K G Z ((cutAl k ρ).set k .no) σ H' := by
    refine ⟨S1.zz, fun c u e => ?_, fun c u e l => ?_, S1.nw, S1.pu, fun j p c e => ?_, S1.ne, S1.pin, S1.len, ⟨fun j m e => absurd e (nl j m), fun j m a b e _ => absurd e (nl j a), fun j m r a _ e => absurd e (nl m a)⟩⟩
    · exact hout c u (away c u (fun hc => by rw [F.z c hc] at e; cases e) (S1.zh _ _ e)) (S1.zh _ _ e)
    · exact hout c u (away c u (fun hc => by rw [F.g c hc] at e; cases e) (S1.fr c u e l)) (S1.fr c u e l)
    · obtain ⟨a, o, q, ho, q2⟩ := S1.ow j p c e
      exact ⟨a, o, q, hout a o (away a o (fun hc => (F.n a hc).1 j p c e q) ho) ho, q2⟩
  have F2 : FP K G Z ((cutAl k ρ).set k .no) σ H' fs' := by
    refine ⟨fun b hb => r.live hb, fun b hb => ?_, fun b hb => ?_, fun b hb => ⟨fun j p c e q => ?_, fun ⟨j, m, _, _, e, _⟩ => nl j m e⟩⟩
    · rcases hnew b hb with q | q
      · exact F.z b q
      · exact S.fresh q
    · rcases hnew b hb with q | q
      · exact F.g b q
      · exact S.freshIn q
    · rcases hnew b hb with q' | q'
      · exact (F.n b q').1 j p c e q
      · obtain ⟨a, o, q2, ho, _⟩ := S1.ow j p c e
        rw [q] at q2
        cases q2
        rw [q'] at ho
        cases ho
  have R := S2.putN (List.getElem?_set_self hk') (noLL_of nl) A.s r nd F2
  rw [cutAl_set, cutAl_cut, List.set_set] at R
  exact R
end
/-! the plain side -/
def inApp (m : List (Key × List D)) (j : Key) (d : D) : List (Key × List D) := match m with
  | [] => [(j, [d])]
  | x :: m => if x.1 = j then (x.1, x.2 ++ [d]) :: m else x :: inApp m j d
def ddApp (kvs : List (Key × List (Key × List D))) (i j : Key) (d : D) : List (Key × List (Key × List D)) := match kvs with
  | [] => [(i, [(j, [d])])]
  | m :: kvs => if m.1 = i then (m.1, inApp m.2 j d) :: kvs else m :: ddApp kvs i j d
/-- where a key stands -/
theorem find_split {α β : Type} {R : (Key × α) → (Key × β) → Prop} (f : α → V) (k : Key) (hR : ∀ a b, R a b → a.1 = b.1) : ∀ {A : List (Key × α)} {m : List (Key × β)}, Paired R A m →
    (valV (A.map fun t => (t.1, f t.2)) k = none ∧ ∀ b ∈ m, b.1 ≠ k) ∨
    ∃ A1 t A2 m1 b m2, A = A1 ++ t :: A2 ∧ m = m1 ++ b :: m2 ∧ t.1 = k ∧ b.1 = k ∧ Paired R A1 m1 ∧ R t b ∧ Paired R A2 m2 ∧ (∀ b ∈ m1, b.1 ≠ k) ∧ valV (A.map fun t => (t.1, f t.2)) k = some (f t.2)
  | [], [], .nil => .inl ⟨rfl, fun b hb => by cases hb⟩
  | t :: A, b :: m, .cons h r => by
    have e := hR _ _ h
    by_cases hk : t.1 = k
    · exact .inr ⟨[], t, A, [], b, m, rfl, rfl, hk, by rw [← e]; exact hk, .nil, h, r, fun b hb => (by cases hb), valV_pos (p := (t.1, f t.2)) hk⟩
    · have hv : valV ((t :: A).map fun t => (t.1, f t.2)) k = valV (A.map fun t => (t.1, f t.2)) k := valV_neg (p := (t.1, f t.2)) hk
      rcases find_split f k hR r with ⟨q1, q2⟩ | ⟨A1, t', A2, m1, b', m2, q1, q2, q3, q4, q5, q6, q7, q8, q9⟩
      · refine .inl ⟨by rw [hv]; exact q1, fun b' hb => ?_⟩
        rcases List.mem_cons.mp hb with rfl | hb
        · rw [← e]; exact hk
        · exact q2 b' hb
      · refine .inr ⟨t :: A1, t', A2, b :: m1, b', m2, by rw [q1]; rfl, by rw [q2]; rfl, q3, q4, .cons h q5, q6, q7, fun b' hb => ?_, by rw [hv]; exact q9⟩
        rcases List.mem_cons.mp hb with rfl | hb
        · rw [← e]; exact hk
        · exact q8 b' hb
theorem inApp_none {j : Key} {d : D} : ∀ {m : List (Key × List D)}, (∀ b ∈ m, b.1 ≠ j) → inApp m j d = m ++ [(j, [d])]
  | [], _ => rfl
  | x :: m, h => by
    unfold inApp
    rw [if_neg (h x List.mem_cons_self), inApp_none fun b hb => h b (List.mem_cons_of_mem _ hb)]
    rfl
theorem inApp_some {j : Key} {d : D} {x : Key × List D} (e : x.1 = j) {m2 : List (Key × List D)} : ∀ {m1 : List (Key × List D)}, (∀ b ∈ m1, b.1 ≠ j) → inApp (m1 ++ x :: m2) j d = m1 ++ (x.1, x.2 ++ [d]) :: m2
  | [], _ => by
    show inApp (x :: m2) j d = _
    unfold inApp
    rw [if_pos e]
    rfl
  | y :: m1, h => by
    show inApp (y :: (m1 ++ x :: m2)) j d = _
    unfold inApp
    rw [if_neg (h y List.mem_cons_self), inApp_some e fun b hb => h b (List.mem_cons_of_mem _ hb)]
    rfl
theorem ddApp_none {i j : Key} {d : D} : ∀ {m : List (Key × List (Key × List D))}, (∀ b ∈ m, b.1 ≠ i) → ddApp m i j d = m ++ [(i, [(j, [d])])]
  | [], _ => rfl
  | x :: m, h => by
    unfold ddApp
    rw [if_neg (h x List.mem_cons_self), ddApp_none fun b hb => h b (List.mem_cons_of_mem _ hb)]
    rfl
theorem ddApp_some {i j : Key} {d : D} {x : Key × List (Key × List D)} (e : x.1 = i) {m2 : List (Key × List (Key × List D))} : ∀ {m1 : List (Key × List (Key × List D))}, (∀ b ∈ m1, b.1 ≠ i) → ddApp (m1 ++ x :: m2) i j d = m1 ++ (x.1, inApp x.2 j d) :: m2
  | [], _ => by
    show ddApp (x :: m2) i j d = _
    unfold ddApp
    rw [if_pos e]
    rfl
  | y :: m1, h => by
    show ddApp (y :: (m1 ++ x :: m2)) i j d = _
    unfold ddApp
    rw [if_neg (h y List.mem_cons_self), ddApp_some e fun b hb => h b (List.mem_cons_of_mem _ hb)]
    rfl
theorem putK_none {κ : Type} [DecidableEq κ] {kvs : List (κ × V)} {k : κ} (h : valV kvs k = none) (v : V) : putK kvs k v = kvs ++ [(k, v)] := by
  unfold putK
  rw [valV_any, h, if_neg (by simp)]
theorem paired_app {α β : Type} {P : α → β → Prop} : ∀ {l l' : List α} {m m' : List β}, Paired P l m → Paired P l' m' → Paired P (l ++ l') (m ++ m')
  | _, _, _, _, .nil, h => h
  | _, _, _, _, .cons h r, h' => .cons h (paired_app r h')
def newDD1 (k : Nat) (o : Option Rho) : Mo := match o with
  | some ρ => if noLL ρ = true then .nx ((cutAl k ρ).set k (.ll (.dd []))) else .st
  | none => .st
def oNewDD (k : Nat) : Os := fun ρ => newDD1 k (setSl ρ k .no)
def oDdApp (k a b c : Nat) : O D := fun ρ => match ρ[k]?, ρ[a]?, ρ[b]?, ρ[c]? with
  | some (.ll (.dd kvs)), some (.pu (.int i)), some (.pu (.int j)), some (.pu d) => if kvs.length < 16000000 ∧ (kvs.all fun m => decide (m.2.length < 16000000) && m.2.all fun x => decide (x.2.length < 16000000)) = true then
      .ok .none ((cutAl k ρ).set k (.ll (.dd (ddApp kvs (.inl i) (.inl j) d)))) else .st
  | _, _, _, _ => .st
def oFrzS (k : Nat) (o : Os) : Os := fun ρ => match ρ[k]? with
  | some (.ll n) => o ((cutAl k ρ).set k (.pu (ntD n)))
  | _ => .st
section
variable {X : Cx} {G : Gm} {B : Wish} {x y z u : Str} {pos pos' spos p1 p2 p3 p4 p5 p6 p7 p8 p9 : Pos} {st : Stmt} {o : Os}
theorem sd_frz (k : Nat) (h : SD X G B st o) : SD X G B st (oFrzS k o) := ps_imp h fun D σ H ⟨Z, ρ, S, p⟩ => by
  unfold oFrzS at p
  split at p
  · rename_i n hn
    obtain ⟨v, Z', _, e, _, S1⟩ := S.freezeN hn
    exact ⟨Z', _, S1, PostS.mono p e⟩
  · exact p.elim
theorem sd_newDD (k : Nat) (hN : X.N.Nodup) (hi : X.N[k]? = some x := by rfl) (hx : Loc X.env.scope x := by first | exact Or.inl rfl | exact Or.inr rfl) (hs : swapsWith (.Dict [] [] pos) (some (.Name x pos')) spos.line X.env = pure false := by rfl)
    (hf : X.fn x = true ∨ X.env.scope.names.lookup x = some .local := by first | exact .inl rfl | exact .inr rfl | assumption) : SD X G B (.Assign [.Name x pos'] (.Dict [] [] pos) spos) (oNewDD k) := by
  refine ps_imp (ps_set hN hi hx pe_dnewK hs hf) ?_
  rintro D σ H ⟨Z, ρ, S, p⟩ q hq
  unfold oNewDD newDD1 at p
  split at p
  · rename_i ρ' hset
    split at p
    · rename_i hno
      have S0 := S.grow (.loose S.zh hq (.dK []))
      have F0 : FP X.K G Z ρ σ (upd H q (.dK [])) [q] := by
        refine ⟨fun b hb => ?_, fun b hb => ?_, fun b hb => ?_, fun b hb => ?_⟩ <;> (rw [List.mem_singleton] at hb; subst hb)
        · exact ⟨_, upd_same⟩
        · exact S.fresh hq
        · exact S.freshIn hq
        · exact (S.newA hq).heap S.lx fun c o f ho => by rw [upd_ne]; exact ho; intro e; subst e; rw [hq] at ho; cases ho
      have S1 := S0.put (v := .ref q) hset trivial
      have F1 := F0.put (v := .ref q) hset
      have h2 : k < ρ.length ∧ ρ' = ρ.set k .no := by
        unfold setSl at hset
        split at hset
        · cases hset
        · rename_i s0 _ h0; cases hset; exact ⟨(List.getElem?_eq_some_iff.mp h0).1, rfl⟩
        · cases hset
      have h3 : k < σ.length := by rw [← S.len]; exact h2.1
      have h4 : ρ'[k]? = some Sl.no := by rw [h2.2]; exact List.getElem?_set_self h2.1
      exact p _ Z _ (.refl _) (S1.putN h4 hno (List.getElem?_set_self h3) (.dd (A := []) upd_same .nil) (by simp [ddF]) F1)
    · exact p.elim
  · exact p.elim
end
end Ow
namespace Ow
open PySem L2
theorem ddF_app (A1 A2 : List (Key × Addr × List (Key × Addr))) (t : Key × Addr × List (Key × Addr)) : ddF (A1 ++ t :: A2) = ddF A1 ++ (t.2.1 :: (t.2.2.map (·.2) ++ ddF A2)) := by simp [ddF]
theorem ddF_mem {A : List (Key × Addr × List (Key × Addr))} {c : Addr} : c ∈ ddF A ↔ ∃ t ∈ A, c = t.2.1 ∨ ∃ q ∈ t.2.2, c = q.2 := by
  unfold ddF
  rw [List.mem_flatMap]
  constructor
  · rintro ⟨t, ht, h⟩
    rcases List.mem_cons.mp h with rfl | h
    · exact ⟨t, ht, .inl rfl⟩
    · obtain ⟨q, hq, rfl⟩ := List.mem_map.mp h
      exact ⟨t, ht, .inr ⟨q, hq, rfl⟩⟩
  · rintro ⟨t, ht, rfl | ⟨q, hq, rfl⟩⟩
    · exact ⟨t, ht, List.mem_cons_self⟩
    · exact ⟨t, ht, List.mem_cons_of_mem _ (List.mem_map.mpr ⟨q, hq, rfl⟩)⟩
abbrev DI (P : List V → List D → Prop) (H : Hp) (q : Key × Addr) (x : Key × List D) : Prop := q.1 = x.1 ∧ ∃ vs, H q.2 = some (.lst vs) ∧ P vs x.2
abbrev DO (P : List V → List D → Prop) (H : Hp) (t : Key × Addr × List (Key × Addr)) (m : Key × List (Key × List D)) : Prop := t.1 = m.1 ∧ H t.2.1 = some (.dK (t.2.2.map fun q => (q.1, V.ref q.2))) ∧ Paired (DI P H) t.2.2 m.2
section
variable {P : List V → List D → Prop} {H H' : Hp}
theorem di_keep {B : List (Key × Addr)} {m : List (Key × List D)} (h : Paired (DI P H) B m) (hk : ∀ q ∈ B, ∀ o, H q.2 = some o → H' q.2 = some o) : Paired (DI P H') B m :=
  paired_imp h fun q x hq ⟨e, vs, h1, h2⟩ => ⟨e, vs, hk q hq _ h1, h2⟩
theorem do_keep {A : List (Key × Addr × List (Key × Addr))} {m : List (Key × List (Key × List D))} (h : Paired (DO P H) A m) (hk : ∀ c ∈ ddF A, ∀ o, H c = some o → H' c = some o) : Paired (DO P H') A m :=
  paired_imp h fun t m ht ⟨e, h1, h2⟩ => ⟨e, hk _ (ddF_mem.mpr ⟨t, ht, .inl rfl⟩) _ h1, di_keep h2 fun q hq => hk _ (ddF_mem.mpr ⟨t, ht, .inr ⟨q, hq, rfl⟩⟩)⟩
end
section
variable {X : Cx} {G : Gm} {B : Wish} {x y z u : Str} {apos cpos p1 p2 p3 p4 p5 p6 p7 p8 p9 p10 : Pos}
theorem pd_ddApp (k a b c : Nat)
    (m1 : M2 X (.Name x p1) "setdefault" p2 (.Name y p3) (.Dict [] [] p4) p5) (m2 : M2 X (.Call (.Attribute (.Name x p1) "setdefault" p2) [.Name y p3, .Dict [] [] p4] [] p5) "setdefault" p6 (.Name z p7) (.List [] p8) p9)
    (hN1 : X.N[k]? = some x := by rfl) (hv1 : Vis X.env.scope x := by first | exact Or.inl rfl | exact Or.inr (Or.inl rfl) | exact Or.inr (Or.inr rfl)) (hd1 : (x == ("__debug__" : Str)) = false := by decide) (hc1 : (x == ("__classdict__" : Str)) = false := by decide)
    (hN2 : X.N[a]? = some y := by rfl) (hv2 : Vis X.env.scope y := by first | exact Or.inl rfl | exact Or.inr (Or.inl rfl) | exact Or.inr (Or.inr rfl)) (hd2 : (y == ("__debug__" : Str)) = false := by decide) (hc2 : (y == ("__classdict__" : Str)) = false := by decide)
    (hN3 : X.N[b]? = some z := by rfl) (hv3 : Vis X.env.scope z := by first | exact Or.inl rfl | exact Or.inr (Or.inl rfl) | exact Or.inr (Or.inr rfl)) (hd3 : (z == ("__debug__" : Str)) = false := by decide) (hc3 : (z == ("__classdict__" : Str)) = false := by decide)
    (hN4 : X.N[c]? = some u := by rfl) (hv4 : Vis X.env.scope u := by first | exact Or.inl rfl | exact Or.inr (Or.inl rfl) | exact Or.inr (Or.inr rfl)) (hd4 : (u == ("__debug__" : Str)) = false := by decide) (hc4 : (u == ("__classdict__" : Str)) = false := by decide)
    (hbase : attributeBase (.Call (.Attribute (.Call (.Attribute (.Name x p1) "setdefault" p2) [.Name y p3, .Dict [] [] p4] [] p5) "setdefault" p6) [.Name z p7, .List [] p8] [] p9) "append" X.env (eval (.Call (.Attribute (.Call (.Attribute (.Name x p1) "setdefault" p2) [.Name y p3, .Dict [] [] p4] [] p5) "setdefault" p6) [.Name z p7, .List [] p8] [] p9) X.env) = eval (.Call (.Attribute (.Call (.Attribute (.Name x p1) "setdefault" p2) [.Name y p3, .Dict [] [] p4] [] p5) "setdefault" p6) [.Name z p7, .List [] p8] [] p9) X.env := by rfl)
    (hfew : ((backTo cpos (starEach [.Name u p10] X.env)).all (fun x => !x.1) && (backToKw cpos (keywordEach [] X.env)).all (fun x => x.1.isSome)
      && decide ([Expr.Name u p10].length + ([] : List Keyword).length + (if ([] : List Keyword).isEmpty then 0 else 1) < 30)) = true := by rfl)
    (hline : (apos.endLine == cpos.line) = true := by rfl) (hs : starEach [.Name u p10] X.env = (false, eval (.Name u p10) X.env) :: starEach [] X.env := by rfl) :
    PD X G B (.Call (.Attribute (.Call (.Attribute (.Call (.Attribute (.Name x p1) "setdefault" p2) [.Name y p3, .Dict [] [] p4] [] p5) "setdefault" p6) [.Name z p7, .List [] p8] [] p9) "append" apos) [.Name u p10] [] cpos) (oDdApp k a b c) := by
  refine pe_imp (pe_bm PySem.F.plainAttrs_list PySem.F.slot_list_append PySem.F.type_list_append mt_append (pe_dsetd (pe_dsetd (pe_var (i := k) hN1 hv1 hd1 hc1) (pe_var (i := a) hN2 hv2 hd2 hc2) pe_dnewK m1) (pe_var (i := b) hN3 hv3 hd3 hc3) (pe_lst pa_nil) m2) (pa_cons (pe_var (i := c) hN4 hv4 hd4 hc4) pa_nil hs) hbase hfew hline hs rfl) ?_
  rintro σ H Q ⟨Z, ρ, S, p⟩
  unfold oDdApp at p
  split at p
  · rename_i kvs i j d hk ha hb hc
    split at p
    · rename_i hlim
      obtain ⟨hl1, hl2⟩ := hlim
      have lim2 : ∀ m ∈ kvs, m.2.length < 16000000 ∧ ∀ x ∈ m.2, x.2.length < 16000000 := fun m hm => by
        have := List.all_eq_true.mp hl2 m hm
        simp only [Bool.and_eq_true, decide_eq_true_eq, List.all_eq_true] at this
        exact this
      obtain ⟨v, fs, A⟩ := S.lx.ll k _ hk
      obtain ⟨_, qa, ra⟩ := S.pu a _ ha
      cases ra
      obtain ⟨_, qb, rb⟩ := S.pu b _ hb
      cases rb
      obtain ⟨dv, qc, rc⟩ := S.pu c _ hc
      have nd := A.nd
      have rr := A.r
      have As := A.s
      generalize hv : v = v0 at rr
      generalize hf : fs = fs0 at rr
      cases rr with
      | dd h1 h2 =>
        rename_i a0 A0
        subst hv
        subst hf
        have h2' : Paired (DO (RpAll X.K Z) H) A0 kvs := h2
        have hlA : A0.length = kvs.length := Paired.length h2'
        have liveF : ∀ c ∈ a0 :: ddF A0, ∃ o, H c = some o := fun c hc => A.r.live hc
        refine ⟨_, As, a0, rfl, .inl ⟨_, .inl h1⟩, _, qa, fun p' hp => ?_⟩
        have npF : ∀ c ∈ a0 :: ddF A0, c ≠ p' := fun c hc e => by subst e; obtain ⟨o, ho⟩ := liveF c hc; rw [hp] at ho; cases ho
        refine ⟨A0.map fun t => (t.1, V.ref t.2.1), .inl i, by rw [upd_ne (npF a0 List.mem_cons_self)]; exact h1, rfl, by rw [List.length_map, hlA]; exact lim_lt hl1, fun v hv => ?_, fun hv => ?_⟩
        · -- the outer key is there
          rcases find_split (R := DO (RpAll X.K Z) H) (fun t : Addr × List (Key × Addr) => V.ref t.1) (.inl i) (fun _ _ h => h.1) h2' with ⟨q1, _⟩ | ⟨A1, t, A2, k1, m, k2, eA, ek, et, em, r1, rt, r2, n1, q1⟩
          · have hv' : valV (A0.map fun t => (t.1, V.ref t.2.1)) (.inl i) = some v := hv
            rw [show valV (A0.map fun t => (t.1, V.ref t.2.1)) (.inl i) = none from q1] at hv'
            cases hv'
          have hv' : valV (A0.map fun t => (t.1, V.ref t.2.1)) (.inl i) = some v := hv
          rw [show valV (A0.map fun t => (t.1, V.ref t.2.1)) (.inl i) = some (V.ref t.2.1) from q1] at hv'
          cases hv'
          obtain ⟨e0, hia, rin⟩ := rt
          have tin : t ∈ A0 := by rw [eA]; simp
          have iaF : t.2.1 ∈ a0 :: ddF A0 := List.mem_cons_of_mem _ (ddF_mem.mpr ⟨t, tin, .inl rfl⟩)
          have hmk : m ∈ kvs := by rw [ek]; simp
          refine ⟨t.2.1, rfl, .inl ⟨_, .inl (by rw [upd_ne (npF _ iaF)]; exact hia)⟩, _, qb, Nat.zero_le _, fun q hq => ?_⟩
          have hqp : q ≠ p' := fun e => by subst e; rw [upd_same] at hq; cases hq
          have hqH : H q = none := by rw [upd_ne hqp] at hq; exact hq
          have nqF : ∀ c ∈ a0 :: ddF A0, c ≠ q := fun c hc e => by subst e; obtain ⟨o, ho⟩ := liveF c hc; rw [hqH] at ho; cases ho
          have hlB : t.2.2.length = m.2.length := Paired.length rin
          refine ⟨t.2.2.map fun q => (q.1, V.ref q.2), .inl j, by rw [upd_ne (nqF _ iaF), upd_ne (npF _ iaF)]; exact hia, rfl, by rw [List.length_map, hlB]; exact lim_lt (lim2 m hmk).1, fun v hv => ?_, fun hv => ?_⟩
          · -- .. and the inner one
            rcases find_split (R := DI (RpAll X.K Z) H) V.ref (.inl j) (fun _ _ h => h.1) rin with ⟨q2, _⟩ | ⟨B1, t2, B2, j1, x2, j2, eB, ej, et2, ex2, s1, st, s2, n2, q2⟩
            · rw [q2] at hv; cases hv
            rw [q2] at hv
            cases hv
            obtain ⟨e2, vs, hla, rvs⟩ := st
            have t2in : t2 ∈ t.2.2 := by rw [eB]; simp
            have laF : t2.2 ∈ a0 :: ddF A0 := List.mem_cons_of_mem _ (ddF_mem.mpr ⟨t, tin, .inr ⟨t2, t2in, rfl⟩⟩)
            have hla4 : upd (upd H p' (.dK [])) q (.lst []) t2.2 = some (.lst vs) := by rw [upd_ne (nqF _ laF), upd_ne (npF _ laF)]; exact hla
            refine ⟨.inl ⟨rfl, vs, SqL.of hla4⟩, _, qc, ?_⟩
            have hxm : x2 ∈ m.2 := by rw [ej]; simp
            refine ⟨t2.2, vs, dv, rfl, rfl, hla4, by rw [rvs.length]; exact lim_lt ((lim2 m hmk).2 x2 hxm), ?_⟩
            -- the new heap
            have nd' : (t2.2 :: ((a0 :: (ddF A1 ++ (t.2.1 :: B1.map (·.2)))) ++ (B2.map (·.2) ++ ddF A2))).Nodup := by
              have e : a0 :: ddF A0 = (a0 :: (ddF A1 ++ (t.2.1 :: B1.map (·.2)))) ++ t2.2 :: (B2.map (·.2) ++ ddF A2) := by
                rw [eA, ddF_app, eB]; simp
              exact List.perm_middle.nodup_iff.mp (by rw [← e]; exact nd)
            have ne : ∀ c, c ∈ (a0 :: (ddF A1 ++ (t.2.1 :: B1.map (·.2)))) ++ (B2.map (·.2) ++ ddF A2) → c ≠ t2.2 := fun c hc e => by subst e; exact (List.nodup_cons.mp nd').1 hc
            have keep : ∀ c ∈ a0 :: ddF A0, c ≠ t2.2 → ∀ o, H c = some o → upd (upd (upd H p' (.dK [])) q (.lst [])) t2.2 (.lst (vs ++ [dv])) c = some o := fun c hc hne o ho => by
              rw [upd_ne hne, upd_ne (nqF c hc), upd_ne (npF c hc)]; exact ho
            have inF : ∀ c, c ∈ (a0 :: (ddF A1 ++ (t.2.1 :: B1.map (·.2)))) ++ (B2.map (·.2) ++ ddF A2) → c ∈ a0 :: ddF A0 := fun c hc => by
              rw [eA, ddF_app, eB]; simp at hc ⊢; rcases hc with h | h | h | h | h | h <;> simp [h]
            have kp : ∀ c, c ∈ (a0 :: (ddF A1 ++ (t.2.1 :: B1.map (·.2)))) ++ (B2.map (·.2) ++ ddF A2) → ∀ o, H c = some o → upd (upd (upd H p' (.dK [])) q (.lst [])) t2.2 (.lst (vs ++ [dv])) c = some o := fun c hc => keep c (inF c hc) (ne c hc)
            refine p .non Z _ (.refl _) (S.reN hk A (fs' := a0 :: ddF A0) (fun c o hc ho => ?_) (fun b hb => .inl hb) ?_ nd) .non
            · have c1 : c ≠ t2.2 := fun e => hc (by rw [e]; exact laF)
              have c2 : c ≠ q := fun e => by rw [e, hqH] at ho; cases ho
              have c3 : c ≠ p' := fun e => by rw [e, hp] at ho; cases ho
              rw [upd_ne c1, upd_ne c2, upd_ne c3]; exact ho
            · refine .dd (kp a0 (by simp) _ h1) ?_
              rw [ek, ddApp_some em n1, ej, inApp_some ex2 n2, eA]
              refine paired_app (do_keep r1 fun c hc => kp c (by simp [hc])) (.cons ⟨e0, kp _ (by simp) _ hia, ?_⟩ (do_keep r2 fun c hc => kp c (by simp [hc])))
              rw [eB]
              refine paired_app (di_keep s1 fun c hc => kp _ (by simp; exact .inr (.inr (.inr (.inl ⟨_, hc⟩))))) (.cons ⟨e2, vs ++ [dv], upd_same, rvs.append (.one rc)⟩ (di_keep s2 fun c hc => kp _ (by simp; exact .inr (.inr (.inr (.inr (.inl ⟨_, hc⟩)))))))
          · -- .. but not the inner one
            rcases find_split (R := DI (RpAll X.K Z) H) V.ref (.inl j) (fun _ _ h => h.1) rin with ⟨q2, n2⟩ | ⟨B1, t2, B2, j1, x2, j2, eB, ej, et2, ex2, s1, st, s2, n2, q2⟩
            rotate_left
            · rw [q2] at hv; cases hv
            have hq5 : upd (upd (upd H p' (.dK [])) q (.lst [])) t.2.1 (.dK (putK (t.2.2.map fun q => (q.1, V.ref q.2)) (.inl j) (V.ref q))) q = some (.lst []) := by rw [upd_ne (nqF _ iaF).symm, upd_same]
            refine ⟨.inl ⟨rfl, [], SqL.of hq5⟩, _, qc, ?_⟩
            refine ⟨q, [], dv, rfl, rfl, hq5, lim_lt (by decide), ?_⟩
            rw [putK_none q2]
            have nd' : (t.2.1 :: ((a0 :: ddF A1) ++ (t.2.2.map (·.2) ++ ddF A2))).Nodup := by
              have e : a0 :: ddF A0 = (a0 :: ddF A1) ++ t.2.1 :: (t.2.2.map (·.2) ++ ddF A2) := by rw [eA, ddF_app]; simp
              exact List.perm_middle.nodup_iff.mp (by rw [← e]; exact nd)
            have ne : ∀ c, c ∈ (a0 :: ddF A1) ++ (t.2.2.map (·.2) ++ ddF A2) → c ≠ t.2.1 := fun c hc e => by subst e; exact (List.nodup_cons.mp nd').1 hc
            have inF : ∀ c, c ∈ (a0 :: ddF A1) ++ (t.2.2.map (·.2) ++ ddF A2) → c ∈ a0 :: ddF A0 := fun c hc => by
              rw [eA, ddF_app]; simp at hc ⊢; rcases hc with h | h | h | h <;> simp [h]
            have kp : ∀ c, c ∈ (a0 :: ddF A1) ++ (t.2.2.map (·.2) ++ ddF A2) → ∀ o, H c = some o → upd (upd (upd (upd H p' (.dK [])) q (.lst [])) t.2.1 (.dK ((t.2.2.map fun q => (q.1, V.ref q.2)) ++ [(.inl j, V.ref q)]))) q (.lst ([] ++ [dv])) c = some o := fun c hc o ho => by
              rw [upd_ne (nqF c (inF c hc)), upd_ne (ne c hc), upd_ne (nqF c (inF c hc)), upd_ne (npF c (inF c hc))]; exact ho
            have eF : ddF (A1 ++ (t.1, t.2.1, t.2.2 ++ [(.inl j, q)]) :: A2) = ddF A1 ++ (t.2.1 :: (t.2.2.map (·.2) ++ ([q] ++ ddF A2))) := by rw [ddF_app]; simp
            have eP : (a0 :: ddF (A1 ++ (t.1, t.2.1, t.2.2 ++ [(.inl j, q)]) :: A2)).Perm (q :: (a0 :: ddF A0)) := by
              rw [eF, eA, ddF_app]
              have e1 : (a0 :: (ddF A1 ++ (t.2.1 :: (t.2.2.map (·.2) ++ ([q] ++ ddF A2))))) = (a0 :: (ddF A1 ++ (t.2.1 :: t.2.2.map (·.2)))) ++ q :: ddF A2 := by simp
              have e2 : (a0 :: (ddF A1 ++ (t.2.1 :: (t.2.2.map (·.2) ++ ddF A2)))) = (a0 :: (ddF A1 ++ (t.2.1 :: t.2.2.map (·.2)))) ++ ddF A2 := by simp
              rw [e1, e2]
              exact List.perm_middle
            refine p .non Z _ (.refl _) (S.reN hk A (fs' := a0 :: ddF (A1 ++ (t.1, t.2.1, t.2.2 ++ [(.inl j, q)]) :: A2)) (fun c o hc ho => ?_) (fun b hb => ?_) ?_ ?_) .non
            · have hc' : c ∉ q :: (a0 :: ddF A0) := fun h => hc (eP.mem_iff.mpr h)
              have c1 : c ≠ q := fun e => hc' (by rw [e]; exact List.mem_cons_self)
              have c2 : c ≠ t.2.1 := fun e => hc' (by rw [e]; exact List.mem_cons_of_mem _ iaF)
              have c3 : c ≠ p' := fun e => by rw [e, hp] at ho; cases ho
              rw [upd_ne c1, upd_ne c2, upd_ne c1, upd_ne c3]; exact ho
            · rcases List.mem_cons.mp (eP.mem_iff.mp hb) with rfl | hb
              · exact .inr hqH
              · exact .inl hb
            · refine .dd (A := A1 ++ (t.1, t.2.1, t.2.2 ++ [(.inl j, q)]) :: A2) ?_ ?_
              · have := kp a0 (by simp) _ h1
                rw [this, eA]
                simp
              · rw [ek, ddApp_some em n1, inApp_none n2]
                refine paired_app (do_keep r1 fun c hc => kp c (by simp [hc])) (.cons ⟨e0, ?_, ?_⟩ (do_keep r2 fun c hc => kp c (by simp [hc])))
                · show upd _ q _ t.2.1 = _
                  rw [upd_ne (nqF _ iaF), upd_same]
                  simp
                · exact paired_app (di_keep rin fun c hc => kp _ (by simp; exact .inr (.inr (.inl ⟨_, hc⟩)))) (.cons ⟨rfl, [] ++ [dv], upd_same, .one rc⟩ .nil)
            · exact eP.nodup_iff.mpr (List.nodup_cons.mpr ⟨fun h => nqF q h rfl, nd⟩)
        · -- a new key
          rcases find_split (R := DO (RpAll X.K Z) H) (fun t : Addr × List (Key × Addr) => V.ref t.1) (.inl i) (fun _ _ h => h.1) h2' with ⟨q1, n1⟩ | ⟨A1, t, A2, k1, m, k2, eA, ek, et, em, r1, rt, r2, n1, q1⟩
          rotate_left
          · have hv' : valV (A0.map fun t => (t.1, V.ref t.2.1)) (.inl i) = none := hv
            rw [show valV (A0.map fun t => (t.1, V.ref t.2.1)) (.inl i) = some (V.ref t.2.1) from q1] at hv'
            cases hv'
          have na : p' ≠ a0 := (npF a0 List.mem_cons_self).symm
          have hp1 : upd (upd H p' (.dK [])) a0 (.dK (putK (A0.map fun t => (t.1, V.ref t.2.1)) (.inl i) (V.ref p'))) p' = some (.dK []) := by rw [upd_ne na, upd_same]
          refine ⟨p', rfl, .inl ⟨_, .inl hp1⟩, _, qb, Nat.zero_le _, fun q hq => ?_⟩
          have hqa : q ≠ a0 := fun e => by subst e; rw [upd_same] at hq; cases hq
          have hqp : q ≠ p' := fun e => by subst e; rw [hp1] at hq; cases hq
          have hqH : H q = none := by rw [upd_ne hqa, upd_ne hqp] at hq; exact hq
          have nqF : ∀ c ∈ a0 :: ddF A0, c ≠ q := fun c hc e => by subst e; obtain ⟨o, ho⟩ := liveF c hc; rw [hqH] at ho; cases ho
          refine ⟨[], .inl j, by rw [upd_ne hqp.symm]; exact hp1, rfl, lim_lt (by decide), fun v hv => ?_, fun hv => ?_⟩
          · cases hv
          · rw [putK_none q1, putK_none hv]
            have hq5 : upd (upd (upd (upd H p' (.dK [])) a0 (.dK ((A0.map fun t => (t.1, V.ref t.2.1)) ++ [(.inl i, V.ref p')]))) q (.lst [])) p' (.dK ([] ++ [(.inl j, V.ref q)])) q = some (.lst []) := by rw [upd_ne hqp, upd_same]
            refine ⟨.inl ⟨rfl, [], SqL.of hq5⟩, _, qc, ?_⟩
            refine ⟨q, [], dv, rfl, rfl, hq5, lim_lt (by decide), ?_⟩
            have na0 : a0 ∉ ddF A0 := (List.nodup_cons.mp nd).1
            have kp : ∀ c, c ∈ ddF A0 → ∀ o, H c = some o → upd (upd (upd (upd (upd H p' (.dK [])) a0 (.dK ((A0.map fun t => (t.1, V.ref t.2.1)) ++ [(.inl i, V.ref p')]))) q (.lst [])) p' (.dK ([] ++ [(.inl j, V.ref q)]))) q (.lst ([] ++ [dv])) c = some o := fun c hc o ho => by
              have hc' : c ∈ a0 :: ddF A0 := List.mem_cons_of_mem _ hc
              have ca : c ≠ a0 := fun e => na0 (by rw [← e]; exact hc)
              rw [upd_ne (nqF c hc'), upd_ne (npF c hc'), upd_ne (nqF c hc'), upd_ne ca, upd_ne (npF c hc')]; exact ho
            have eF : ddF (A0 ++ [(.inl i, p', [(.inl j, q)])]) = ddF A0 ++ [p', q] := by simp [ddF]
            refine p .non Z _ (.refl _) (S.reN hk A (fs' := a0 :: ddF (A0 ++ [(.inl i, p', [(.inl j, q)])])) (fun c o hc ho => ?_) (fun b hb => ?_) ?_ ?_) .non
            · rw [eF] at hc
              simp at hc
              rw [upd_ne hc.2.2.2, upd_ne hc.2.2.1, upd_ne hc.2.2.2, upd_ne hc.1, upd_ne hc.2.2.1]; exact ho
            · rw [eF] at hb
              simp at hb
              rcases hb with rfl | hb | rfl | rfl
              · exact .inl List.mem_cons_self
              · exact .inl (List.mem_cons_of_mem _ hb)
              · exact .inr hp
              · exact .inr hqH
            · refine .dd (A := A0 ++ [(.inl i, p', [(.inl j, q)])]) ?_ ?_
              · rw [upd_ne hqa.symm, upd_ne na.symm, upd_ne hqa.symm, upd_same]
                simp
              · rw [ddApp_none n1]
                refine paired_app (do_keep h2' fun c hc => kp c hc) (.cons ⟨rfl, ?_, ?_⟩ .nil)
                · show upd _ q _ p' = _
                  rw [upd_ne hqp.symm, upd_same]
                  rfl
                · exact .cons ⟨rfl, [] ++ [dv], upd_same, .one rc⟩ .nil
            · rw [eF]
              have e1 : a0 :: (ddF A0 ++ [p', q]) = (a0 :: ddF A0) ++ [p', q] := rfl
              rw [e1, List.nodup_append]
              refine ⟨nd, by simp; exact hqp.symm, fun c hc b hb => ?_⟩
              simp at hb
              rcases hb with rfl | rfl
              · exact npF c hc
              · exact nqF c hc
    · exact p.elim
  · exact p.elim
end
end Ow
namespace Ow
open PySem PySem.Spec PyProof.Rows L2
/-! ### set(..) of a list of ints, and sorted of that -/
section
variable {P : Program} {w : World} {A : Around} {E : Value → Shared → Prop} {sh : Shared}
set_option maxHeartbeats 3200000 in
theorem set_of_listI {l : Addr} {itms : Array Value} (nums : List Int) {Q : Value → Shared → Prop} (hand : A.handled = none) (hlist : sh.heap.IsList l itms) (hints : IntsAre itms.toList nums) (hb : nums.length + 1 < scanBound)
    (h : ∀ (hq : Heap) (tn c : Nat), SetR w hq sh.heap.objs.size (fun j => decide (j ∈ nums)) c → c ≤ nums.length → (∀ b o, sh.heap.get? b = some o → hq.get? b = some o) → Q (.ref sh.heap.objs.size) { sh with heap := hq, toks := tn }) :
    wpAny (model P w) A (call (.type "set") [.ref l]) Q E sh := by
  have hsz0 : itms.size = nums.length := by
    have q := IntsAre.length hints
    rw [Array.length_toList] at q
    exact q
  obtain ⟨c, tl, hmro2⟩ := F.called_set.mro
  have hmade2 := F.called_set.made
  have hsub2 := F.called_set.sub
  refine wpAny_call (codeAny_of_tree ?_); show wpAny _ _ (callAny (.type "set") _) _ _ _; refine wpAny_pure ⟨Code.quiet_builtin _ (by decide +kernel), codeAny_builtin F.entry_type_call ?_⟩; rw [Around.under_plain (weight_type_call_type "set" [.ref l] []) rfl]
  have hA1 := F.called_set.notType
  have hA2 := F.called_set.canCreate
  have hcall := F.typeCall_set_1 (.ref l)
  repeat any_goals first | assumption | wp_step

  refine codeAny_mono (code_set_led1 (.ref l) (E := E) (Q₁ := fun obw s₁ => obw = .ref sh.heap.objs.size ∧ s₁ = { sh with heap := sh.heap.push { cls := .type "set", dict := none, data := .set #[] 0 (.fresh 0 0 (!w.params.followText "set-order")) } }) ⟨rfl, rfl⟩) fun r s₁ hres => ?_
  cases r with
  | error e => exact hres
  | ok flo =>
    cases flo with
    | ret obw =>
      obtain ⟨rfl, rfl⟩ := hres
      have hSet : (sh.heap.push { cls := .type "set", dict := none, data := .set #[] 0 (.fresh 0 0 (!w.params.followText "set-order")) }).get? sh.heap.objs.size = some { cls := .type "set", dict := none, data := .set #[] 0 (.fresh 0 0 (!w.params.followText "set-order")) } := Heap.get?_push_size _ rfl
      have hTy : Shared.TypeIs { sh with heap := sh.heap.push { cls := .type "set", dict := none, data := .set #[] 0 (.fresh 0 0 (!w.params.followText "set-order")) } } (.ref sh.heap.objs.size) "set" := ⟨_, hSet, rfl⟩
      have hli2 := F.called_set.init.lookup
      have hbi2 := F.called_set.init.bind (.ref sh.heap.objs.size)
      repeat any_goals first | assumption | wp_step

      refine codeAny_mono (codeAny_call_builtin (R := wants (fun r s₂ => r = .none ∧ ∃ hq tn c, s₂ = { sh with heap := hq, toks := tn } ∧ SetR w hq sh.heap.objs.size (fun j => decide (j ∈ nums)) c ∧ c ≤ nums.length ∧
          (∀ b o, sh.heap.get? b = some o → hq.get? b = some o)) E) F.called_set.init.plain F.entry_set_init (check_set_init_1 hTy ?_)) fun rr2 s₂ hrr2 => ?_
      · obtain ⟨ob0, hol, hcl, nl, hdl⟩ := hlist
        obtain ⟨ocls, odict, odata, oslots⟩ := ob0
        simp only at hcl hdl
        subst hcl; subst hdl
        have hol' : (sh.heap.push { cls := .type "set", dict := none, data := .set #[] 0 (.fresh 0 0 (!w.params.followText "set-order")) }).get? l = some { cls := .type "list", dict := odict, data := .seq itms nl, slots := oslots } := Heap.get?_push_of_some _ hol
        have hsls := F.sub_list_set
        have hsl2 := F.sub_list_frozenset
        have hnne : (Value.type "list" == Value.type "dict") = false := by decide
        have hlA : (sh.heap.push { cls := .type "set", dict := none, data := .set #[] 0 (.fresh 0 0 (!w.params.followText "set-order")) }).IsList l itms := ⟨_, hol', rfl, nl, rfl⟩
        unfold Builtin.«set.__init__» noKeywords Builtin.Frozenset.updateFrom; generalize hPI : pyIter = PIt
        wp_walk
        subst hPI

        refine wpAny_pyIter_list hlA (wpAny_bind (wpAny_runValue ?_))
        have hlSz : l < sh.heap.objs.size := Heap.lt_size hol
        have hh3 : A.in1.in1.in1.handled = none := by simp [hand]
        have hz1 : (sh.heap.push { cls := .type "set", dict := none, data := .set #[] 0 (.fresh 0 0 (!w.params.followText "set-order")) }).objs.size = sh.heap.objs.size + 1 := Heap.size_push ..
        have hneI : l ≠ (sh.heap.push { cls := .type "set", dict := none, data := .set #[] 0 (.fresh 0 0 (!w.params.followText "set-order")) }).objs.size := by
          rw [Heap.size_push]; exact Nat.ne_of_lt (Nat.lt_succ_of_lt hlSz)
        have hSf : sh.heap.objs.size ∉ [(sh.heap.push { cls := .type "set", dict := none, data := .set #[] 0 (.fresh 0 0 (!w.params.followText "set-order")) }).objs.size, l] := by
          rw [Heap.size_push]; simp only [List.mem_cons, List.mem_singleton, List.not_mem_nil, or_false, not_or]
          exact ⟨Nat.ne_of_lt (Nat.lt_succ_self _), Nat.ne_of_gt hlSz⟩
        have hval : ∀ (i : Nat) (v : Value), itms[i]? = some v → ∃ k t, nums[i]? = some k ∧ v = .int k t := fun i v hvv => by
          have hi : i < nums.length := by rw [← hsz0]; exact (Array.getElem?_eq_some_iff.mp hvv).1
          obtain ⟨t, e⟩ := PyProof.Rows.IntsAre.int_at hints i v (by rw [Array.getElem?_toList]; exact hvv)
          refine ⟨nums[i], t, List.getElem?_eq_getElem hi, ?_⟩
          rw [e, List.getD_eq_getElem?_getD, List.getElem?_eq_getElem hi] <;> rfl
        refine set_update_ints ((Walks.list hh3 _ l hneI itms).toS) sh.heap.objs.size
          hSf nums hsz0 hb hval (itms.size - 0) 0 _ (by omega) (Nat.zero_le _)
          ⟨⟨_, Heap.get?_push_size _ rfl, rfl, rfl⟩, (hlA.push _)⟩ ?hS0 ?hR
        case hS0 =>
          have hgt0 : ((sh.heap.push { cls := .type "set", dict := none, data := .set #[] 0 (.fresh 0 0 (!w.params.followText "set-order")) }).push { cls := .type "list_iterator", data := .fields #[.ref l, .int 0 0] }).get? sh.heap.objs.size
              = some { cls := .type "set", dict := none, data := .set #[] 0 (.fresh 0 0 (!w.params.followText "set-order")) } := Heap.get?_push_of_some _ hSet
          exact ⟨0, Nat.le_refl 0, setR_new_at hgt0⟩
        case hR =>
          intro sh' c' hm hc' hSet'
          obtain ⟨hq, g2, d', tn', os'⟩ := sh'
          have eg2 : g2 = sh.gens := hm.gens
          have ed2 : d' = sh.drawn := hm.drawn
          have eo2 : os' = sh.os := hm.os
          subst eg2; subst ed2; subst eo2
          show wpAny _ _ _ _ _ _
          refine wpAny_pure ?_
          show wpAny _ _ (ret Value.none) _ _ _
          rw [hsz0] at hc'
          refine wpAny_pure ⟨rfl, hq, tn', c', rfl, hSet', hc', fun b o e => ?_⟩
          have hBz : b < sh.heap.objs.size := Heap.lt_size e
          have hBa : b ≠ sh.heap.objs.size := Nat.ne_of_lt hBz
          have hB2 : b ≠ (sh.heap.push { cls := .type "set", dict := none, data := .set #[] 0 (.fresh 0 0 (!w.params.followText "set-order")) }).objs.size := by
            rw [Heap.size_push]; exact Nat.ne_of_lt (Nat.lt_succ_of_lt hBz)
          exact hm.heap b o (by simp only [List.mem_cons, List.mem_singleton, List.not_mem_nil, or_false, not_or]; exact ⟨hBa, hB2⟩) (Heap.get?_push_of_some _ (Heap.get?_push_of_some _ e))

      · cases rr2 with
        | error e => exact hrr2
        | ok ff2 =>
          cases ff2 with
          | ret r =>
            obtain ⟨rfl, hq, tn, c', rfl, hSet', hc', hk'⟩ := hrr2
            repeat any_goals first | assumption | wp_step
            exact h _ _ _ hSet' hc' hk'
          | _ => exact hrr2.elim
    | _ => exact hres.elim

end
end Ow
namespace Ow
open PySem L2
/-! ### sorted(set(..)) of ints; still dicts -/
def insI (x : Int) : List Int → List Int
  | [] => [x]
  | y :: r => if x < y then x :: y :: r else if x = y then y :: r else y :: insI x r
def uniq : List Int → List Int
  | [] => []
  | x :: r => insI x (uniq r)
theorem mem_insI {x k : Int} : ∀ {l : List Int}, k ∈ insI x l ↔ k = x ∨ k ∈ l
  | [] => by simp [insI]
  | y :: r => by
    unfold insI
    split
    · simp
    · split
      · rename_i e
        subst e
        simp
      · rw [List.mem_cons, mem_insI, List.mem_cons]
        constructor
        · rintro (h | h | h) <;> simp [h]
        · rintro (h | h | h) <;> simp [h]
theorem mem_uniq {k : Int} : ∀ {l : List Int}, k ∈ uniq l ↔ k ∈ l
  | [] => by simp [uniq]
  | x :: r => by unfold uniq; rw [mem_insI, mem_uniq, List.mem_cons]
theorem insI_lt {x : Int} : ∀ {l : List Int}, l.Pairwise (· < ·) → (insI x l).Pairwise (· < ·)
  | [], _ => by simp [insI]
  | y :: r, h => by
    obtain ⟨h1, h2⟩ := List.pairwise_cons.mp h
    unfold insI
    split
    · rename_i q
      refine List.pairwise_cons.mpr ⟨fun z hz => ?_, h⟩
      rcases List.mem_cons.mp hz with rfl | hz
      · exact q
      · have := h1 z hz; omega
    · split
      · exact h
      · rename_i q1 q2
        refine List.pairwise_cons.mpr ⟨fun z hz => ?_, insI_lt h2⟩
        rcases mem_insI.mp hz with rfl | hz
        · omega
        · exact h1 z hz
theorem uniq_lt : ∀ l : List Int, (uniq l).Pairwise (· < ·)
  | [] => .nil
  | x :: r => insI_lt (uniq_lt r)
theorem lt_ext {l m : List Int} (h1 : l.Pairwise (· < ·)) (h2 : m.Pairwise (· < ·)) (h : ∀ k, k ∈ l ↔ k ∈ m) : l = m := by
  have n1 : l.Nodup := h1.imp fun q e => by subst e; exact Int.lt_irrefl _ q
  have n2 : m.Nodup := h2.imp fun q e => by subst e; exact Int.lt_irrefl _ q
  have p : l.Perm m := (List.perm_ext_iff_of_nodup n1 n2).mpr h
  exact p.eq_of_pairwise (fun a b _ _ x y => by omega) h1 h2
theorem sortI_of {ys ks : List Int} (h1 : ys.Perm ks) (h2 : ys.Pairwise (· ≤ ·)) : ys = sortI ks := by
  have p : ys.Perm (sortI ks) := h1.trans (List.mergeSort_perm _ _).symm
  have s2 : (sortI ks).Pairwise (fun a b => decide (a ≤ b) = true) := List.pairwise_mergeSort (by intro a b c h1 h2; simp at *; omega) (by intro a b; simp; omega) ks
  exact p.eq_of_pairwise (fun a b _ _ x y => by simp at x y; omega) (h2.imp fun h => by simpa using h) s2
/-! the set -/
def rSetI (K : PySem.W.Frag) (w : World) : List V → Hp → VK → Prop := fun xs H Q => ∃ (l : Addr) (ns : List Int), xs = [V.ref l] ∧ (SqL K H l (ns.map V.int) ∨ SqT K H l (ns.map V.int)) ∧ ns.length + 1 < 4096 ∧
  ∀ p c, H p = none → (uniq ns).length = c → Q (.ref p) (upd H p (SetO w p (fun j => decide (j ∈ ns)) c))
theorem setR_count {w : World} {h : Heap} {a : Addr} {ns : List Int} {c : Nat} (R : SetR w h a (fun j => decide (j ∈ ns)) c) : (uniq ns).length = c := by
  obtain ⟨o, es, ep, t, _, _, _, _, nd, hm, _, _, hn, _⟩ := R
  have p : (uniq ns).Perm (es.toList.map L2.keyOf) := by
    refine (List.perm_ext_iff_of_nodup ((uniq_lt ns).imp fun q e => by subst e; exact Int.lt_irrefl _ q) nd).mpr fun k => ?_
    rw [mem_uniq, ← hm k]
    simp
  rw [p.length_eq, List.length_map, Array.length_toList, hn]
section
variable {X : Cx}
theorem ints_are {vs : List Value} {ns : List Int} (h : Vals (ns.map V.int) vs) : PyProof.Rows.IntsAre vs ns := ints_of_vals h
theorem cr_setI (hc : X.calm = true) : CallR X (.type "set") (rSetI X.K X.w) := by
  intro pins s σ H xs us Q I r h
  obtain ⟨l, ns, rfl, hs, hb, q⟩ := h
  rw [Vals.ref1 r]
  rcases hs with hs | hs
  · obtain ⟨its, rv, hl, _⟩ := I.list hs
    refine set_of_listI (w := X.w) ns (I.ok.hd hc) hl.isList (ints_are rv) hb fun h' tk c R hcn hk => ?_
    have hn : H s.heap.objs.size = none := I.hok.fresh (Nat.le_refl _)
    exact ⟨.ref s.heap.objs.size, _, I.laid (t' := tk) (h' := h') (fun b u e => hk b u e) (Nat.le_refl _) (setO_new R), rfl, q _ c hn (setR_count R)⟩
  · obtain ⟨its, rv, hl, _⟩ := I.tuple hs
    refine call_set_tupI (w := X.w) ns (I.ok.hd hc) hl (ints_are rv) hb fun h' tk c R hcn hk => ?_
    have hn : H s.heap.objs.size = none := I.hok.fresh (Nat.le_refl _)
    exact ⟨.ref s.heap.objs.size, _, I.laid (t' := tk) (h' := h') (fun b u e => hk b u e) (Nat.le_refl _) (setO_new R), rfl, q _ c hn (setR_count R)⟩
end
/-- sorted(set(xs)) as data -/
def fSS : List D → Option Rs
  | [.list xs] => match intsOf xs with
    | some ns => if ns.length < 4000 ∧ (uniq ns).length < 64 then some (.nw (.li ((uniq ns).map PyData.int))) else none
    | none => none
  | [.tuple xs] => match intsOf xs with
    | some ns => if ns.length < 4000 ∧ (uniq ns).length < 64 then some (.nw (.li ((uniq ns).map PyData.int))) else none
    | none => none
  | _ => none
section
variable {X : Cx} {G : Gm} {B : Wish} {e : Expr} {p p2 pos pos2 : Pos} {oas : O (List Va)}
theorem zb_sset (hc : X.calm = true) (hg : Gl X "sorted") (hm : X.mg "sorted" = none) (hg2 : Gl X "set") (hm2 : X.mg "set" = none) (ha : AD X G B [e] oas)
    (he : starEach [e] X.env = (false, eval e X.env) :: starEach [] X.env := by rfl) (he2 : starEach [.Call (.Name "set" p2) [e] [] pos2] X.env = (false, eval (.Call (.Name "set" p2) [e] [] pos2) X.env) :: starEach [] X.env := by rfl) :
    RD X G B (.Call (.Name "sorted" p) [.Call (.Name "set" p2) [e] [] pos2] [] pos) (oCB fSS oas) := by
  refine pe_imp (pe_callB (cr_sortedSet hc) hg hm PyProof.Rows.boot_sorted (pa_cons (pe_callTy (cr_setI hc) hg2 hm2 PyProof.Rows.boot_set ha (he := he) (hpl := rfl)) pa_nil he2) (he := he2) (hpl := rfl)) ?_
  intro σ H Q w
  refine run_imp w fun vs as ρ1 Z1 H1 S1 r1 p1 => ?_
  unfold cb1 at p1
  split at p1
  · rename_i ds hds
    split at p1
    · rename_i R hR
      have rd := S1.rdbs r1 hds
      have fin : ∀ (l : Addr) (ns : List Int), vs = [V.ref l] → (SqL X.K H1 l (ns.map V.int) ∨ SqT X.K H1 l (ns.map V.int)) → ns.length < 4000 → (uniq ns).length < 64 → R = .nw (.li ((uniq ns).map PyData.int)) →
          rSetI X.K X.w vs H1 fun x H2 => rSortedSet X.w [x] H2 Q := fun l ns e1 e2 e3 e4 e5 => by
        refine ⟨l, ns, e1, e2, by omega, fun q c hq hcn => ⟨q, _, c, rfl, upd_same, by omega, fun ms t m1 m2 m3 hp => ?_⟩⟩
        have hms : ms = uniq ns := lt_ext m1 (uniq_lt ns) fun k => by rw [m2 k, mem_uniq]; simp
        subst hms
        subst e5
        have g1 : Grow Z1 H1 Z1 (upd H1 q (SetO X.w q (fun j => decide (j ∈ ns)) c)) := .loose S1.zh hq _
        have g2 : Grow Z1 _ Z1 (upd (upd H1 q (SetO X.w q (fun j => decide (j ∈ ns)) c)) t (.lst ((uniq ns).map V.int))) := .loose g1.zh hp _
        have ht : H1 t = none := by
          by_cases e : t = q
          · rw [e, upd_same] at hp; cases hp
          · rw [upd_ne e] at hp; exact hp
        exact p1.fin S1 (g1.trans g2) ⟨t, _, rfl, ht, S1.fresh ht, upd_same, RpAll.ints _⟩
      unfold fSS at hR
      split at hR
      · split at hR
        · rename_i ns hns
          split at hR
          · rename_i hlim
            cases hR
            obtain ⟨v, rfl, rv⟩ := Paired.one rd
            obtain ⟨a, us, rfl, ha', ra⟩ := rv.list S1.zh
            rw [intsOf_eq hns] at ra
            rw [RpAll.of_ints ra] at ha'
            exact fin a ns rfl (.inl (SqL.of ha')) hlim.1 hlim.2 rfl
          · cases hR
        · cases hR
      · split at hR
        · rename_i ns hns
          split at hR
          · rename_i hlim
            cases hR
            obtain ⟨v, rfl, rv⟩ := Paired.one rd
            obtain ⟨a, us, rfl, ha', ra, _⟩ := rv.tup S1.zh
            rw [intsOf_eq hns] at ra
            rw [RpAll.of_ints ra] at ha'
            exact fin a ns rfl (.inr (SqT.of ha')) hlim.1 hlim.2 rfl
          · cases hR
        · cases hR
      · cases hR
    · exact p1.elim
  · exact p1.elim
end
/-! a still dict: d[k], sorted(d) -/
def keyIs (e : D) (k : Key) : Bool := match e, k with
  | .int j, .inl i => decide (j = i)
  | .str x, .inr y => decide (x = y)
  | _, _ => false
theorem keyIs_D (k' k : Key) : keyIs (keyD k') k = decide (k' = k) := by
  cases k' <;> cases k <;> simp [keyIs, keyD]
def lookK : List (D × D) → Key → Option D
  | [], _ => none
  | p :: r, k => if keyIs p.1 k = true then some p.2 else lookK r k
theorem lookK_v {K : PySem.W.Frag} {Z : Hp} {k : Key} {d : D} : ∀ {kvs : List (Key × V)} {ds : List (D × D)}, RpKvs K Z kvs ds → lookK ds k = some d → ∃ v, valV kvs k = some v ∧ Rp K Z v d
  | _, _, .nil, h => by cases h
  | (k', v) :: kvs, (e, d') :: ds, .cons he h1 h2, h => by
    unfold lookK at h
    dsimp only at h
    rw [he, keyIs_D] at h
    by_cases hk : k' = k
    · rw [if_pos (by simpa using hk)] at h
      cases h
      exact ⟨v, valV_pos (p := (k', v)) hk, h1⟩
    · rw [if_neg (by simpa using hk)] at h
      obtain ⟨w, q1, q2⟩ := lookK_v h2 h
      exact ⟨w, by rw [valV_neg (p := (k', v)) hk]; exact q1, q2⟩
def fIxF : D → D → Option Rs
  | .dict ((.bool false, .none) :: ds), .int i => (lookK ds (.inl i)).map .pu
  | _, _ => none
def keysI : List (D × D) → Option (List Int)
  | [] => some []
  | (.int i, _) :: r => (keysI r).map (i :: ·)
  | _ :: _ => none
theorem keysI_v {K : PySem.W.Frag} {Z : Hp} : ∀ {kvs : List (Key × V)} {ds : List (D × D)} {ks : List Int}, RpKvs K Z kvs ds → keysI ds = some ks → kvs.map (·.1) = ks.map Sum.inl
  | _, _, _, .nil, h => by cases h; rfl
  | (k', v) :: kvs, (e, d') :: ds, ks, .cons he h1 h2, h => by
    subst he
    cases k' with
    | inr x => cases h
    | inl i =>
      have h' : (keysI ds).map (i :: ·) = some ks := h
      cases q : keysI ds with
      | none => rw [q] at h'; cases h'
      | some ms =>
        rw [q] at h'
        cases h'
        rw [List.map_cons, List.map_cons, keysI_v h2 q]
def fSortF : List D → Option Rs
  | [.dict ((.bool false, .none) :: ds)] => match keysI ds with
    | some ks => if ks.length < 64 then some (.nw (.li ((sortI ks).map PyData.int))) else none
    | none => none
  | _ => none
theorem Rdb.dct {K : PySem.W.Frag} {Z H : Hp} {v : V} {ds : List (D × D)} (h : Rdb K Z H v (.dict ((.bool false, .none) :: ds))) (e : Same Z H) : ∃ a kvs, v = .ref a ∧ H a = some (.dK kvs) ∧ RpKvs K Z kvs ds := by
  rcases h with h | ⟨_, _, _, _, q, _⟩
  · cases h with
    | dct h1 h2 => exact ⟨_, _, rfl, e _ _ h1, h2⟩
  · cases q
section
variable {X : Cx} {G : Gm} {B : Wish} {a b e : Expr} {p pos : Pos} {oa ob : O Va} {oas : O (List Va)}
theorem rd_ixF {k : Nat} (hr : Room k X.A) (ha : ED X G B a oa) (hb : ED X G B b ob) (hs' : NoSl b := by exact fun _ _ => rfl) : RD X G B (.Subscript a b pos) (oBin fIxF oa ob) := by
  refine pe_imp (pe_dget (hu_of hr) ha hb hs') fun σ H Q w => ?_
  refine run_bin (r := fun x y H Q => ∃ ad v, x = .ref ad ∧ DGet H ad y (some v) ∧ Q v H) ?_ w
  intro x y dx dy R Z H Q e rx ry hf k
  unfold fIxF at hf
  split at hf
  · rename_i ds i
    cases q : lookK ds (.inl i) with
    | none => rw [q] at hf; cases hf
    | some d =>
      rw [q] at hf
      cases hf
      obtain ⟨ad, kvs, rfl, h1, h2⟩ := rx.dct e
      obtain ⟨v, h3, h4⟩ := lookK_v h2 q
      rw [ry.int]
      exact ⟨ad, v, rfl, by rw [← h3]; exact DGet.k (k := .inl i) h1, k v Z H (.refl e) h4⟩
  · cases hf
theorem callS_sortF {K : PySem.W.Frag} : CallS K (fun xs H Q => ∃ (a : Addr) (kvs : List (Key × V)) (ks : List Int), xs = [.ref a] ∧ Rd H a (.dK kvs) ∧ kvs.map (·.1) = ks.map Sum.inl ∧ ks.length < 64 ∧
    ∀ (ys : List Int) (p : Addr), ys.Perm ks → ys.Pairwise (· ≤ ·) → H p = none → Q (.ref p) (upd H p (.lst (ys.map V.int)))) fSortF := by
  intro vs ds R Z H Q e rd hf k
  unfold fSortF at hf
  split at hf
  · rename_i ds'
    split at hf
    · rename_i ks hks
      split at hf
      · rename_i hlim
        cases hf
        obtain ⟨v, rfl, rv⟩ := Paired.one rd
        obtain ⟨ad, kvs, rfl, h1, h2⟩ := rv.dct e
        refine ⟨ad, kvs, ks, rfl, .inl h1, keysI_v h2 hks, hlim, fun ys p y1 y2 hp => ?_⟩
        have hy := sortI_of y1 y2
        subst hy
        exact k _ Z _ (.loose e hp _) ⟨p, _, rfl, hp, none_of_same e hp, upd_same, RpAll.ints _⟩
      · cases hf
    · cases hf
  · cases hf
theorem zb_sortF (hc : X.calm = true) (hg : Gl X "sorted") (hm : X.mg "sorted" = none) (ha : AD X G B [e] oas) (he : starEach [e] X.env = (false, eval e X.env) :: starEach [] X.env := by rfl) : RD X G B (.Call (.Name "sorted" p) [e] [] pos) (oCB fSortF oas) :=
  rd_callB (call_sortedDI hc) callS_sortF hg hm PyProof.Rows.boot_sorted ha (by decide) (by decide) he rfl
end
/-! on a written state -/
@[simp] theorem ap_frzS (k : Nat) (o : Os) (z : Sl) (ρ : Rho) : oFrzS k o (z :: ρ) = match (z :: ρ)[k]? with
  | some (.ll n) => o ((cutAl k (z :: ρ)).set k (.pu (ntD n)))
  | _ => .st := rfl
@[simp] theorem ap_newDD (k : Nat) (z : Sl) (ρ : Rho) : oNewDD k (z :: ρ) = newDD1 k (setSl (z :: ρ) k .no) := rfl
@[simp] theorem newDD1_some (k : Nat) (ρ : Rho) : newDD1 k (some ρ) = if noLL ρ = true then .nx ((cutAl k ρ).set k (.ll (.dd []))) else .st := rfl
@[simp] theorem ap_ddApp (k a b c : Nat) (z : Sl) (ρ : Rho) : oDdApp k a b c (z :: ρ) = match (z :: ρ)[k]?, (z :: ρ)[a]?, (z :: ρ)[b]?, (z :: ρ)[c]? with
  | some (.ll (.dd kvs)), some (.pu (.int i)), some (.pu (.int j)), some (.pu d) => if kvs.length < 16000000 ∧ (kvs.all fun m => decide (m.2.length < 16000000) && m.2.all fun x => decide (x.2.length < 16000000)) = true then
      .ok .none ((cutAl k (z :: ρ)).set k (.ll (.dd (ddApp kvs (.inl i) (.inl j) d)))) else .st
  | _, _, _, _ => .st := rfl
end Ow
namespace Ow
open PySem L2
/-! ### a in d, as a test -/
theorem pt_alt {X : Cx} {e : Expr} {t t' : TT} (h : PT X e t) (h' : PT X e t') : PT X e (fun σ H Q => t σ H Q ∨ t' σ H Q) := ⟨fun pins s σ H Q I w => w.elim (h.run pins s σ H Q I) (h'.run pins s σ H Q I)⟩
section
variable {X : Cx} {G : Gm} {B : Wish} {a b : Expr} {pos : Pos} {oa ob : O Va}
theorem td_inA {k : Nat} (hr : Room k X.A) (ha : ED X G B a oa) (hb : ED X G B b ob) (hm : behindInMarks .In b = false := by rfl) : TD X G B (.Compare a [.In] [b] pos) (oTst (oInA false oa ob)) := by
  refine pt_imp (pt_alt (pt_cmp (pc_din (hu_of hr) ha hb) hm) (pt_cmpR op_inAll ha hb hm)) fun σ H Q w => ?_
  have w := run_tst w
  refine run_two (R1 := fun y x H Q => ∃ ad o, x = .ref ad ∧ DGet H ad y o ∧ Q (.bl o.isSome) H) (R2' := rInAll X.K false) (f1 := din1 false) (f2 := bin1 (fIn false)) (t := fun ρ a b => vaDic ρ b) ?_ ?_ w
  · intro σ Z H ρ y x a b Q S r1 r2 _ p
    unfold din1 at p
    split at p
    · rename_i kd c hk hc
      split at p
      · rename_i o hd
        obtain ⟨ad, ob, rfl, ho, rc⟩ := ctOf_at S r2 hc
        have rk : Rp X.K Z y kd := (S.rdb r1 hk).keptD fun ds e => by subst e; cases c <;> cases hd
        obtain ⟨xv, g, q⟩ := dGet_v ho S.zh rc rk hd
        refine ⟨ad, xv, rfl, g, ?_⟩
        rcases q with ⟨rfl, rfl⟩ | ⟨d', v, rfl, rfl, rv⟩
        · exact p.fin S (.refl S.zh) (.bl _)
        · exact p.fin S (.refl S.zh) (.bl _)
      · exact p.elim
    · exact p.elim
  · intro σ Z H ρ x y a b Q S r1 r2 _ p
    exact bin1_run binS_in S r1 r2 p
theorem td_notinA {k : Nat} (hr : Room k X.A) (ha : ED X G B a oa) (hb : ED X G B b ob) (hm : behindInMarks .NotIn b = false := by rfl) : TD X G B (.Compare a [.NotIn] [b] pos) (oTst (oInA true oa ob)) := by
  refine pt_imp (pt_alt (pt_cmp (pc_dnotin (hu_of hr) ha hb) hm) (pt_cmpR op_notInAll ha hb hm)) fun σ H Q w => ?_
  have w := run_tst w
  refine run_two (R1 := fun y x H Q => ∃ ad o, x = .ref ad ∧ DGet H ad y o ∧ Q (.bl (!o.isSome)) H) (R2' := rInAll X.K true) (f1 := din1 true) (f2 := bin1 (fIn true)) (t := fun ρ a b => vaDic ρ b) ?_ ?_ w
  · intro σ Z H ρ y x a b Q S r1 r2 _ p
    unfold din1 at p
    split at p
    · rename_i kd c hk hc
      split at p
      · rename_i o hd
        obtain ⟨ad, ob, rfl, ho, rc⟩ := ctOf_at S r2 hc
        have rk : Rp X.K Z y kd := (S.rdb r1 hk).keptD fun ds e => by subst e; cases c <;> cases hd
        obtain ⟨xv, g, q⟩ := dGet_v ho S.zh rc rk hd
        refine ⟨ad, xv, rfl, g, ?_⟩
        rcases q with ⟨rfl, rfl⟩ | ⟨d', v, rfl, rfl, rv⟩
        · exact p.fin S (.refl S.zh) (.bl _)
        · exact p.fin S (.refl S.zh) (.bl _)
      · exact p.elim
    · exact p.elim
  · intro σ Z H ρ x y a b Q S r1 r2 _ p
    exact bin1_run binS_in S r1 r2 p
end
end Ow
namespace Ow
open PySem L2
/-! ### sorted(xs), xs tuples of ints -/
abbrev tpI (b : List Int) : D := .tuple (b.map .int)
def leT (p q : List Int) : Bool := decide (p ≤ q)
def sortT (bs : List (List Int)) : List (List Int) := bs.mergeSort leT
theorem le_tup : PySem.W.dataLe false tpI = leT := by
  funext p q
  show (!PySem.W.dataLt (.tuple (q.map .int)) (.tuple (p.map .int))) = decide (p ≤ q)
  rw [PySem.W.dataLt_tuple]
  show (!PySem.W.rowLt (q.map .int) (p.map .int)) = _
  rw [PySem.W.dataLt_ints]
  by_cases h : q < p
  · have h' : ¬ p ≤ q := fun r => List.not_lt.mpr r h
    simp [h, h']
  · have h' : p ≤ q := List.not_lt.mp h
    simp [h, h']
def TI (K : PySem.W.Frag) (H : Hp) (x : V) (b : List Int) : Prop := b ≠ [] ∧ ∃ t, x = .ref t ∧ SqT K H t (b.map V.int)
def rSortedT (K : PySem.W.Frag) : List V → Hp → VK → Prop := fun vs H Q => ∃ (a : Addr) (xs : List V) (bs : List (List Int)) (P : V → List Int → Prop), vs = [V.ref a] ∧ SqL K H a xs ∧ (∀ x b, P x b → TI K H x b) ∧ Paired P xs bs ∧
  ∀ (zs : List V) (p : Addr), Paired P zs (sortT bs) → H p = none → Q (.ref p) (upd H p (.lst zs))
theorem each_of {R : Value → List Int → Prop} {P : V → List Int → Prop} (h : ∀ x v b, RelV x v → P x b → R v b) : ∀ {xs : List V} {its : List Value} {bs : List (List Int)}, Vals xs its → Paired P xs bs → PySem.W.EachIs R its bs
  | _, _, _, .nil, .nil => .nil
  | _, _, _, .cons r rs, .cons q qs => .cons (h _ _ _ r q) (each_of h rs qs)
theorem of_each {P : V → List Int → Prop} : ∀ {out : List Value} {bs : List (List Int)}, PySem.W.EachIs (fun v b => ∃ x, RelV x v ∧ P x b) out bs → ∃ zs : List V, Vals zs out ∧ Paired P zs bs
  | _, _, .nil => ⟨[], .nil, .nil⟩
  | _, _, .cons ⟨x, r, q⟩ rest => by
    obtain ⟨zs, r2, q2⟩ := of_each rest
    exact ⟨x :: zs, .cons r r2, .cons q q2⟩
section
variable {X : Cx}
theorem cr_sortedT {k : Nat} (hr : Room k X.A) : CallR X (.builtin "sorted") (rSortedT X.K) := by
  intro pins s σ H vs us Q I r h
  obtain ⟨a, xs, bs, P, rfl, hs, hP, hp, q⟩ := h
  obtain ⟨its, rv, hl, hz⟩ := I.list hs
  rw [Vals.ref1 r]
  have e : PySem.W.EachIs (fun v b => ∃ x, RelV x v ∧ P x b) its bs := each_of (P := P) (fun x v b r q => ⟨x, r, q⟩) rv hp
  have er : PySem.W.EachIs (fun v b => ∃ as, Reads s.heap v (tpI b) as) its bs := each_of (P := P) (fun x v b r q => by
    obtain ⟨_, t, rfl, ht⟩ := hP x b q
    obtain ⟨its2, r2, ⟨o, ho, hc, n, hd⟩, _⟩ := I.tuple ht
    obtain rfl : v = Value.ref t := r
    exact ⟨[], .tuple ho hc hd (reads_ints r2)⟩) rv hp
  have hne : ∀ b ∈ bs, b ≠ [] := by
    clear e er rv q hs hz
    induction hp with
    | nil => intro b hb; cases hb
    | cons r rs ih =>
      intro b hb
      rcases List.mem_cons.mp hb with rfl | hb
      · exact (hP _ _ r).1
      · exact ih b hb
  have hlen : bs.length = xs.length := hp.length.symm
  refine PySem.W.sorted_data (enc := tpI) hl.isList e er ?_ ?_ (by rw [hlen]; exact hz) ?_ fun out h1 h2 => ?_
  · exact PySem.W.AllAlike.of fun b b' => by show PySem.W.alikeAll _ _ = true; exact PySem.W.alike_ints b b'
  · refine .inl fun d hd => ?_
    obtain ⟨b, hb, rfl⟩ := List.mem_map.mp hd
    cases b with
    | nil => exact absurd rfl (hne _ hb)
    | cons x r => exact ⟨_, _, rfl⟩
  · intro b hb
    have h1 : (tpI b).depth = 1 := by show PyData.depthAll (b.map .int) + 1 = 1; rw [PySem.W.depth_ints]
    rw [h1]
    exact Nat.lt_of_le_of_lt (by omega : X.A.units + 2 + 1 ≤ X.A.units + 64) hr.units
  · rw [le_tup] at h2
    obtain ⟨zs, z1, z2⟩ := of_each h2
    obtain ⟨ep, he'⟩ := PyProof.Rows.sortedAll_at s.heap its out.toArray
    have hzl : zs.length ≤ sizeLine := by
      rw [z2.length, List.length_mergeSort, hlen]; exact hz
    exact ⟨.ref _, upd H (s.heap.objs.size + 1) (.lst zs), I.laid (t' := s.toks) (fun _ _ => PyProof.Rows.sortedAll_old) (Nat.le_succ _) ⟨hzl, out, ep, z1, he'⟩, rfl, q _ _ z2 (I.hok.fresh (Nat.le_succ _))⟩
end
/-- rows of ints out of data -/
def tupsOf : List D → Option (List (List Int))
  | [] => some []
  | .tuple xs :: r => match intsOf xs, tupsOf r with
    | some (n :: ns), some bs => some ((n :: ns) :: bs)
    | _, _ => none
  | _ :: _ => none
theorem tupsOf_eq : ∀ {ds : List D} {bs : List (List Int)}, tupsOf ds = some bs → ds = bs.map tpI ∧ ∀ b ∈ bs, b ≠ []
  | [], bs, h => by cases h; exact ⟨rfl, fun b hb => by cases hb⟩
  | .tuple xs :: r, bs, h => by
    unfold tupsOf at h
    split at h
    · rename_i n ns cs q1 q2
      cases h
      obtain ⟨e, hn⟩ := tupsOf_eq q2
      rw [e, intsOf_eq q1]
      refine ⟨rfl, fun b hb => ?_⟩
      rcases List.mem_cons.mp hb with rfl | hb
      · simp
      · exact hn b hb
    · cases h
  | .none :: _, _, h => by cases h
  | .bool _ :: _, _, h => by cases h
  | .int _ :: _, _, h => by cases h
  | .str _ :: _, _, h => by cases h
  | .list _ :: _, _, h => by cases h
  | .dict _ :: _, _, h => by cases h
theorem tupsOf_map : ∀ {bs : List (List Int)}, (∀ b ∈ bs, b ≠ []) → tupsOf (bs.map tpI) = some bs
  | [], _ => rfl
  | [] :: bs, h => absurd rfl (h [] List.mem_cons_self)
  | (n :: ns) :: bs, h => by
    show (match intsOf ((n :: ns).map .int), tupsOf (bs.map tpI) with | some (n :: ns), some bs => some ((n :: ns) :: bs) | _, _ => none) = _
    rw [intsOf_map, tupsOf_map fun b hb => h b (List.mem_cons_of_mem _ hb)]
def fSortT : List D → Option Rs
  | [.list xs] => (tupsOf xs).map fun bs => .nw (.li ((sortT bs).map tpI))
  | _ => none
theorem fSortT_eq {bs : List (List Int)} (h : ∀ b ∈ bs, b ≠ []) : fSortT [.list (bs.map tpI)] = some (.nw (.li ((sortT bs).map tpI))) := by
  show (tupsOf (bs.map tpI)).map _ = _
  rw [tupsOf_map h]; rfl
def TZ (K : PySem.W.Frag) (Z : Hp) (x : V) (b : List Int) : Prop := b ≠ [] ∧ ∃ t, x = .ref t ∧ Z t = some (.tup (b.map V.int))
theorem rp_tups {K : PySem.W.Frag} {Z : Hp} : ∀ {ws : List V} {bs : List (List Int)}, (∀ b ∈ bs, b ≠ []) → RpAll K Z ws (bs.map tpI) → Paired (TZ K Z) ws bs
  | [], [], _, _ => .nil
  | w :: ws, b :: bs, hn, .cons h1 h2 => by
    refine .cons ⟨hn b List.mem_cons_self, ?_⟩ (rp_tups (fun c hc => hn c (List.mem_cons_of_mem _ hc)) h2)
    cases h1 with
    | tup h3 h4 => exact ⟨_, rfl, by rw [← h4.of_ints]; exact h3⟩
  | [], _ :: _, _, h => by cases h
  | _ :: _, [], _, h => by cases h
theorem tups_rp {K : PySem.W.Frag} {Z : Hp} : ∀ {ws : List V} {bs : List (List Int)}, Paired (TZ K Z) ws bs → RpAll K Z ws (bs.map tpI)
  | _, _, .nil => .nil
  | _, _, .cons ⟨_, t, e, h⟩ rest => by subst e; exact .cons (.tup h (.ints _)) (tups_rp rest)
theorem callS_sortT {K : PySem.W.Frag} : CallS K (rSortedT K) fSortT := by
  intro vs ds R Z H Q e r hf k
  unfold fSortT at hf
  split at hf
  · rename_i xs
    cases q : tupsOf xs with
    | none => rw [q] at hf; cases hf
    | some bs =>
      rw [q] at hf; cases hf
      obtain ⟨he, hn⟩ := tupsOf_eq q
      subst he
      obtain ⟨v, rfl, r1⟩ := Paired.one r
      obtain ⟨b, ws, rfl, hb, rb⟩ := r1.list e
      refine ⟨b, ws, bs, TZ K Z, rfl, SqL.of hb, fun x b ⟨h1, t, h2, h3⟩ => ⟨h1, t, h2, SqT.of (e _ _ h3)⟩, rp_tups hn rb, fun zs p hz hp => ?_⟩
      exact k _ Z _ (.loose e hp _) ⟨p, _, rfl, hp, none_of_same e hp, upd_same, tups_rp hz⟩
  · cases hf
section
variable {X : Cx} {G : Gm} {B : Wish} {e : Expr} {es : List Expr} {p pos : Pos} {oas : O (List Va)}
theorem zb_sortT {k : Nat} (hr : Room k X.A) (hg : Gl X "sorted") (hm : X.mg "sorted" = none) (ha : AD X G B (e :: es) oas) (he : starEach (e :: es) X.env = (false, eval e X.env) :: starEach es X.env := by rfl) (hpl : (backTo pos (starEach es X.env)).any (·.1) = false := by rfl) : RD X G B (.Call (.Name "sorted" p) (e :: es) [] pos) (oCB fSortT oas) :=
  rd_callB (cr_sortedT hr) callS_sortT hg hm PyProof.Rows.boot_sorted ha (by decide) (by decide) he hpl
end
/-! the order -/
theorem sortT_perm (bs : List (List Int)) : (sortT bs).Perm bs := List.mergeSort_perm _ _
theorem leT_trans (a b c : List Int) (h1 : leT a b = true) (h2 : leT b c = true) : leT a c = true := by
  unfold leT at *
  simp at *
  exact List.le_trans h1 h2
theorem leT_total (a b : List Int) : (leT a b || leT b a) = true := by
  unfold leT
  rcases List.le_total a b with h | h <;> simp [h]
theorem sortT_sorted (bs : List (List Int)) : (sortT bs).Pairwise (fun a b => leT a b = true) := List.pairwise_mergeSort leT_trans leT_total bs
end Ow
namespace Ow
open PySem L2
/-! ### is, is not, of bools -/
def fIsB (neg : Bool) : D → D → Option Rs
  | .bool a, .bool b => some (.pu (.bool (if neg = true then !decide (a = b) else decide (a = b))))
  | _, _ => none
@[simp] theorem f_isB (neg a b : Bool) : fIsB neg (.bool a) (.bool b) = some (.pu (.bool (if neg = true then !decide (a = b) else decide (a = b)))) := rfl
section
variable {K : PySem.W.Frag} {X : Cx}
theorem binS_isB : BinS K rIsB (fIsB false) := by
  intro x y dx dy R Z H Q e rx ry hf k
  unfold fIsB at hf
  split at hf
  · rename_i a b
    cases hf
    exact ⟨a, b, rx.bl, ry.bl, k _ Z H (.refl e) (.bl _)⟩
  · cases hf
theorem binS_notB : BinS K rNotB (fIsB true) := by
  intro x y dx dy R Z H Q e rx ry hf k
  unfold fIsB at hf
  split at hf
  · rename_i a b
    cases hf
    exact ⟨a, b, rx.bl, ry.bl, k _ Z H (.refl e) (.bl _)⟩
  · cases hf
theorem ck_isB : CmpK X .Is rIsB (fIsB false) := ⟨op_isBl, binS_isB⟩
theorem ck_isnotB : CmpK X .IsNot rNotB (fIsB true) := ⟨op_notBl, binS_notB⟩
end
end Ow
namespace Ow
open PySem PySem.Spec PyProof.Rows PyProof L2 HT
/-! ### t[::-1] of a tuple -/
section
variable {prog : Program} {w : World} {A : Around} {E : Value → Shared → Prop} {s : Shared}
theorem revPlaces (n : Nat) : Builtin.Slice.slicePlaces ((n : Int) - 1) (-1) (-1) = n := by
  unfold Builtin.Slice.slicePlaces
  rw [if_neg (by decide)]
  by_cases h : (n : Int) - 1 > -1
  · rw [if_pos h]
    have : ((n : Int) - 1 - -1 - 1) / (- -1) + 1 = (n : Int) := by
      rw [show (- -1 : Int) = 1 by decide, Int.ediv_one]; omega
    rw [this, Int.toNat_natCast]
  · rw [if_neg h]
    have : n = 0 := by omega
    rw [this]; rfl
theorem sliceApplied_rev {sl : Addr} {vl vu vs : Value} {n : Nat} {Q : Int × Int × Nat → Shared → Prop} (hs : s.heap.IsSliceOf sl vl vu vs) (pl : IsPart vl none) (pu : IsPart vu none) (ps : IsPart vs (some (-1)))
    (h : Q ((n : Int) - 1, -1, n) s) : wpAny (model prog w) A (Builtin.Slice.sliceApplied (.ref sl) (pure (n : Int))) Q E s := by
  obtain ⟨os, hos, hcs, hds⟩ := id hs
  unfold Builtin.Slice.sliceApplied Builtin.Slice.sliceFields
  refine wpAny_bind (wpAny_bind (wpAny_field hos hds (x := vl) rfl (wpAny_bind (wpAny_field hos hds (x := vu) rfl (wpAny_bind (wpAny_field hos hds (x := vs) rfl (wpAny_pure ?_)))))))
  refine wpAny_bind (slicePart_ ps ?_)
  show wpAny _ _ (if ((-1 : Int) == 0) = true then _ else _) _ _ s
  rw [if_neg (by decide)]
  refine wpAny_bind (slicePart_ pl (wpAny_bind (slicePart_ pu (wpAny_bind (wpAny_pure ?_)))))
  show wpAny _ _ (match Builtin.Slice.sliceAdjust none none (-1) (n : Int) with | (lo, hi) => pure (lo, (-1 : Int), Builtin.Slice.slicePlaces lo hi (-1))) _ _ s
  show wpAny _ _ (pure ((n : Int) - 1, (-1 : Int), Builtin.Slice.slicePlaces ((n : Int) - 1) (-1) (-1))) _ _ s
  rw [revPlaces]
  exact wpAny_pure h
theorem pick_rev (xs : Array Value) : ((List.range xs.size).filterMap fun (m : Nat) => xs[(((xs.size : Int) - 1) + (m : Int) * -1).toNat]?) = xs.toList.reverse := by
  have h1 : (List.range xs.size).filterMap (fun (m : Nat) => xs[(((xs.size : Int) - 1) + (m : Int) * -1).toNat]?) = ((List.range xs.size).map fun k => xs.size - 1 - k).filterMap (xs[·]?) := by
    rw [List.filterMap_map]
    congr 1
    funext m
    have : (((xs.size : Int) - 1) + (m : Int) * -1).toNat = xs.size - 1 - m := by omega
    rw [this]; rfl
  rw [h1, PySem.W.krv_range, List.filterMap_reverse, PySem.W.krv_all]
theorem getItem_tuple_rev {t sl : Addr} {items : Array Value} {vl vu vs : Value} {Q : Value → Shared → Prop} (ht : IsTup s.heap t items) (hs : s.heap.IsSliceOf sl vl vu vs) (pl : IsPart vl none) (pu : IsPart vu none) (ps : IsPart vs (some (-1)))
    (h : Q (.ref s.heap.objs.size) { s with heap := s.heap.push { cls := .type "tuple", data := .seq items.toList.reverse.toArray } })
    (hsz : items.size ≤ sizeLine) : wpAny (model prog w) A (getItem (.ref t) (.ref sl)) Q E s := by
  have htake : sizeOk (.seq items.toList.reverse.toArray) := by
    show items.toList.reverse.toArray.size ≤ sizeLine
    rw [List.size_toArray, List.length_reverse, Array.length_toList]; exact hsz
  obtain ⟨os, hos, hcs, hds⟩ := id hs
  have hTs : s.TypeIs (.ref sl) "slice" := ⟨os, hos, hcs⟩
  unfold getItem
  try with_reducible refine wpAny_holding ?_
  first | refine wpAny_bind (wpAny_pure ?_) | skip
  refine wpAny_bind (wpAny_sequenceKey ht.typeIs (by decide) ?_)
  refine wpAny_bind (wpAny_callSpecial?_slot (name := Str.ofString "__getitem__") ht.typeIs PyProof.Rows.slot_tuple_getitem
    (wpAny_call_entry PyProof.Rows.slot_tuple_getitem ht.typeIs entry_tuple_getitem ?_ (args_tuple_getitem _ _)))
  show wpAny _ _ (Builtin.Tuple.tupleItemsOf (.ref t) >>= _) _ _ s
  refine wpAny_bind (tupleItemsOf_ ht ?_)
  refine wpAny_bind (wpAny_typeOf hTs ?_)
  rw [if_pos (by decide)]
  refine wpAny_bind (sliceApplied_rev hs pl pu ps ?_)
  have hno : ¬ ((((items.size : Int) - 1) == 0 && (-1 : Int) == 1 && items.size == items.size) = true) := by
    rw [show ((-1 : Int) == 1) = false from rfl, Bool.and_false, Bool.false_and]; exact Bool.false_ne_true
  show wpAny _ _ (if (((items.size : Int) - 1) == 0 && (-1 : Int) == 1 && items.size == items.size) = true then _ else _) _ _ s
  rw [if_neg hno, pick_rev]
  first
    | exact wpAny_bind (m := Builtin.Tuple.tupleExact _) (wpAny_newObj_type (wpAny_pure ⟨_, rfl, wpAny_pure h⟩) htake)
    | exact wpAny_bind (m := Builtin.Tuple.tupleExact _) (wpAny_newObj_type (wpAny_bind (wpAny_pure (wpAny_pure ⟨_, rfl, wpAny_pure h⟩))) htake)
    | exact wpAny_bind (wpAny_bind (m := Builtin.Tuple.tupleExact _) (wpAny_newObj_type (wpAny_pure (wpAny_pure ⟨_, rfl, wpAny_pure h⟩)) htake))
    | exact wpAny_bind (wpAny_bind (m := Builtin.Tuple.tupleExact _) (wpAny_newObj_type (wpAny_pure ⟨_, rfl, wpAny_pure h⟩) htake))
end
def tRevT (K : PySem.W.Frag) (te : TE) : TE := fun σ H Q => te σ H fun x H1 => ∃ a xs, x = .ref a ∧ SqT K H1 a xs ∧ ∀ p, H1 p = none → Q (.ref p) (upd H1 p (.tup xs.reverse))
section
variable {X : Cx}
theorem pe_revT {e : Expr} {te : TE} {k : Nat} {p1 p2 p3 pos : Pos} (he : PE X e te) : PE X (.Subscript e (.Slice none none (some (.UnaryOp .USub (.Constant (.int 1) k p1) p2)) p3) pos) (tRevT X.K te) := by
  refine ⟨fun pins s σ H Q I h => ?_⟩
  refine Subscript_ (thn (he.run pins s σ H _ I h) fun v s1 ⟨x, H1, I1, r1, q1⟩ => ?_)
  obtain ⟨a, xs, ex, hx, q⟩ := q1
  subst ex
  cases r1
  have hst : PO X (some (.UnaryOp .USub (.Constant (.int 1) k p1) p2)) (tPart (tUn (rU fun i => .int (-i)) (tC (.int 1)))) := po_some (pe_un un_neg pe_int)
  refine wpAny_Slice (thn (po_none.run pins s1 σ H1 (fun o H2 => o = none ∧ H2 = H1) I1 ⟨rfl, rfl⟩) fun vl s2 ⟨l, H2, I2, pl, el, e2⟩ => ?_)
  subst el e2
  refine thn (po_none.run pins s2 σ H2 (fun o H3 => o = none ∧ H3 = H2) I2 ⟨rfl, rfl⟩) fun vu s3 ⟨u, H3, I3, pu, eu, e3⟩ => ?_
  subst eu e3
  refine thn (hst.run pins s3 σ H3 (fun o H4 => o = some (-1) ∧ H4 = H3) I3 ⟨1, rfl, -1, rfl, rfl, rfl⟩) fun vs s4 ⟨o, H4, I4, ps, eo, e4⟩ => ?_
  subst eo e4
  have I5 : Inv X pins σ H4 { s4 with heap := s4.heap.push { cls := .type "slice", data := .fields #[vl, vu, vs] } } := I4.kept (t' := s4.toks) fun b ob q => Heap.get?_push_of_some _ q
  obtain ⟨its, r, ht, hz⟩ := I5.tuple hx
  have hlen := r.length
  show wpAny (model X.prog X.w) X.A (subscriptTail e (.Slice none none (some (.UnaryOp .USub (.Constant (.int 1) k p1) p2)) p3) (.ref a) (.ref s4.heap.objs.size)) (EP X pins σ Q) X.xe { s4 with heap := s4.heap.push { cls := .type "slice", data := .fields #[vl, vu, vs] } }
  refine tail_any (ops := [.ref a, .ref s4.heap.objs.size]) ht.typeIs (PyProof.Rows.slot_tuple_getitem.lookup) ?_ (by with_unfolding_all rfl)
  refine getItem_tuple_rev ht (Heap.IsSliceOf.new _ vl vu vs) pl pu ps ?_ (by rw [List.size_toArray]; omega)
  refine ⟨.ref _, _, I5.laid (t' := s4.toks) (o := .tup xs.reverse) (fun b ob q => Heap.get?_push_of_some _ q) (Nat.le_refl _) ?_, rfl, q _ (I5.hok.fresh (Nat.le_refl _))⟩
  exact ⟨by rw [List.length_reverse]; exact hz, _, r.reverse, IsTup.new _ _⟩
end
def revX1 (a : Va) (ρ : Rho) : M Rs := match rdV ρ a with
  | some (.list ds) => .ok (.nw (.li ds.reverse)) ρ
  | some (.tuple ds) => .ok (.pu (.tuple ds.reverse)) ρ
  | _ => .st
def oRevX (o : O Va) : O Rs := fun ρ => (o ρ).bind revX1
section
variable {X : Cx} {G : Gm} {B : Wish} {pos p1 p2 p3 : Pos} {e : Expr} {oe : O Va} {k : Nat}
theorem rd_revX (he : ED X G B e oe) : RD X G B (.Subscript e (.Slice none none (some (.UnaryOp .USub (.Constant (.int 1) k p1) p2)) p3) pos) (oRevX oe) := by
  refine pe_imp (pe_alt (pe_revL he) (pe_revT he)) fun σ H Q ⟨Z, ρ, S, p⟩ => ?_
  have p : Post X.K G B (RsR X.K G) σ Z ((oe ρ).bind revX1) Q := p
  cases ha : oe ρ with
  | st => rw [ha] at p; exact p.elim
  | ex x ρ1 => rw [ha] at p; exact .inl ⟨Z, ρ, S, by rw [ha]; exact p⟩
  | ok a ρ1 =>
    rw [ha] at p
    have p : Post X.K G B (RsR X.K G) σ Z (revX1 a ρ1) Q := p
    unfold revX1 at p
    split at p
    · rename_i ds hd
      refine .inl ⟨Z, ρ, S, ?_⟩
      rw [ha]
      exact fun v Z1 H1 g S1 r1 => by
        obtain ⟨b, vs, rfl, hb, rb⟩ := (S1.rdb r1 hd).list S1.zh
        have p1 : Post X.K G B (RsR X.K G) σ Z1 (.ok (.nw (.li ds.reverse)) ρ1) Q := fun v Z' H' e' => p v Z' H' (g.trans e')
        exact ⟨b, vs, rfl, SqL.of hb, fun q hq => p1.fin S1 (.loose S1.zh hq _) ⟨q, _, rfl, hq, none_of_same S1.zh hq, upd_same, rb.reverse⟩⟩
    · rename_i ds hd
      refine .inr ⟨Z, ρ, S, ?_⟩
      rw [ha]
      exact fun v Z1 H1 g S1 r1 => by
        obtain ⟨b, vs, rfl, hb, rb, _⟩ := (S1.rdb r1 hd).tup S1.zh
        have p1 : Post X.K G B (RsR X.K G) σ Z1 (.ok (.pu (.tuple ds.reverse)) ρ1) Q := fun v Z' H' e' => p v Z' H' (g.trans e')
        exact ⟨b, vs, rfl, SqT.of hb, fun q hq => p1.fin S1 (.still S1.zh hq (.tup vs.reverse)) (.tup upd_same (rb.reverse.mono (same_upd (S1.fresh hq) _)))⟩
    · exact p.elim
end
@[simp] theorem ap_revX (o : O Va) (z : Sl) (ρ : Rho) : oRevX o (z :: ρ) = (o (z :: ρ)).bind revX1 := rfl
@[simp] theorem revX1_eq (a : Va) (ρ : Rho) : revX1 a ρ = match rdV ρ a with | some (.list ds) => .ok (.nw (.li ds.reverse)) ρ | some (.tuple ds) => .ok (.pu (.tuple ds.reverse)) ρ | _ => .st := rfl
end Ow
namespace Ow
open PySem PySem.Spec PyProof.Rows L2
/-! ### for .. in enumerate(x): x a list of the def's own, flat, that the loop leaves as it is -/
def Gm.pn (G : Gm) (k : Nat) (a : Addr) : Gm := { G with pins := (k, a) :: G.pins }
section
variable {K : PySem.W.Frag} {G : Gm} {Z : Hp} {ρ : Rho} {σ : L2.St} {H : Hp} {k : Nat} {a : Addr} {c : Ct}
theorem set_ow {p q : Bool} {s : Sl} {j : Nat} (h : ρ[k]? = some (.ow p c)) (e : (ρ.set k (.ow q c))[j]? = some s) : (j = k ∧ s = .ow q c) ∨ (j ≠ k ∧ ρ[j]? = some s) := by
  have hk : k < ρ.length := (List.getElem?_eq_some_iff.mp h).1
  by_cases hj : j = k
  · subst hj
    rw [List.getElem?_set_self hk] at e
    exact .inl ⟨rfl, (Option.some.inj e).symm⟩
  · rw [List.getElem?_set_ne (fun z => hj z.symm)] at e
    exact .inr ⟨hj, e⟩
theorem ow_back {p q p' : Bool} {c' : Ct} {j : Nat} (h : ρ[k]? = some (.ow p c)) (e : (ρ.set k (.ow q c))[j]? = some (.ow p' c')) : ∃ p'', ρ[j]? = some (.ow p'' c') := by
  rcases set_ow h e with ⟨rfl, q⟩ | ⟨_, q⟩
  · cases q; exact ⟨_, h⟩
  · exact ⟨_, q⟩
theorem lx_set {G' : Gm} {p q : Bool} (L : LX K G Z ρ σ H) (h : ρ[k]? = some (.ow p c)) (hg : G'.H0 = G.H0) : LX K G' Z (ρ.set k (.ow q c)) σ H where
  ll := fun i n e => by
    rcases set_ow h e with ⟨_, q⟩ | ⟨_, e⟩
    · cases q
    · obtain ⟨v, fs, A⟩ := L.ll i n e
      exact ⟨v, fs, A.s, A.r, A.nd, A.z, fun b hb => by rw [hg]; exact A.g b hb, fun b hb j p' c' e' => by
        obtain ⟨p'', e''⟩ := ow_back h e'
        exact A.w b hb j p'' c' e''⟩
  one := fun i j n m e e' => by
    rcases set_ow h e with ⟨_, q⟩ | ⟨_, e⟩
    · cases q
    · rcases set_ow h e' with ⟨_, q⟩ | ⟨_, e'⟩
      · cases q
      · exact L.one i j n m e e'
  al := fun i k' j n e e' => by
    rcases set_ow h e with ⟨_, q⟩ | ⟨_, e⟩
    · cases q
    · rcases set_ow h e' with ⟨_, q⟩ | ⟨_, e'⟩
      · cases q
      · exact L.al i k' j n e e'
theorem Sim.pinK (S : Sim K G Z ρ σ H) (h : ρ[k]? = some (.ow false c)) (hs : σ[k]? = some (some (V.ref a))) : Sim K (G.pn k a) Z (ρ.set k (.ow true c)) σ H where
  zz := S.zz
  zh := S.zh
  fr := fun b o e hn => S.fr b o e fun ⟨i, q⟩ => hn ⟨i, List.mem_cons_of_mem _ q⟩
  nw := S.nw
  pu := fun i d e => by
    rcases set_ow h e with ⟨_, q⟩ | ⟨_, e⟩
    · cases q
    · exact S.pu i d e
  ow := fun i p c' e => by
    rcases set_ow h e with ⟨rfl, q⟩ | ⟨_, e⟩
    · cases q
      obtain ⟨b, o, h1, h2, h3, h4, _, _⟩ := S.ow _ _ _ h
      have : b = a := by rw [hs] at h1; cases h1; rfl
      subst this
      exact ⟨b, o, h1, h2, h3, h4, fun _ => ⟨i, List.mem_cons_self⟩, fun q => by cases q⟩
    · obtain ⟨b, o, h1, h2, h3, h4, h5, h6⟩ := S.ow i p c' e
      exact ⟨b, o, h1, h2, h3, h4, fun q => by
        obtain ⟨j, q⟩ := h5 q
        exact ⟨j, List.mem_cons_of_mem _ q⟩, h6⟩
  ne := fun i j p q c d hij e1 e2 => by
    obtain ⟨p', e1'⟩ := ow_back h e1
    obtain ⟨q', e2'⟩ := ow_back h e2
    exact S.ne i j p' q' c d hij e1' e2'
  pin := fun i b hb => by
    rcases List.mem_cons.mp hb with q | hb
    · cases q
      exact ⟨hs, c, by rw [List.getElem?_set_self (List.getElem?_eq_some_iff.mp h).1]⟩
    · obtain ⟨h1, c', h2⟩ := S.pin i b hb
      refine ⟨h1, c', ?_⟩
      by_cases hi : i = k
      · subst hi; rw [h] at h2; cases h2
      · rw [List.getElem?_set_ne (fun z => hi z.symm)]; exact h2
  len := by rw [List.length_set]; exact S.len
  lx := lx_set S.lx h rfl
theorem Sim.unpin (S : Sim K (G.pn k a) Z ρ σ H) (h : ρ[k]? = some (.ow true c)) (hH : G.H0 a = none) (hk : ∀ b, (k, b) ∉ G.pins) : Sim K G Z (ρ.set k (.ow false c)) σ H where
  zz := S.zz
  zh := S.zh
  fr := fun b o e hn => S.fr b o e fun ⟨i, q⟩ => by
    rcases List.mem_cons.mp q with q | q
    · cases q
      exact nomatch (hH.symm.trans e)
    · exact hn ⟨i, q⟩
  nw := S.nw
  pu := fun i d e => by
    rcases set_ow h e with ⟨_, q⟩ | ⟨_, e⟩
    · cases q
    · exact S.pu i d e
  ow := fun i p c' e => by
    have hsk := (S.pin k a List.mem_cons_self).1
    rcases set_ow h e with ⟨rfl, q⟩ | ⟨hi, e⟩
    · cases q
      obtain ⟨b, o, h1, h2, h3, h4, _, _⟩ := S.ow _ _ _ h
      have : b = a := by rw [hsk] at h1; cases h1; rfl
      subst this
      exact ⟨b, o, h1, h2, h3, h4, (fun q => by cases q), fun _ => hH⟩
    · obtain ⟨b, o, h1, h2, h3, h4, h5, h6⟩ := S.ow i p c' e
      refine ⟨b, o, h1, h2, h3, h4, fun q => ?_, h6⟩
      obtain ⟨j, q⟩ := h5 q
      rcases List.mem_cons.mp q with q | q
      · cases q
        exact absurd (h1.trans hsk.symm) (S.ne i k _ _ _ _ hi e h)
      · exact ⟨j, q⟩
  ne := fun i j p q c d hij e1 e2 => by
    obtain ⟨p', e1'⟩ := ow_back h e1
    obtain ⟨q', e2'⟩ := ow_back h e2
    exact S.ne i j p' q' c d hij e1' e2'
  pin := fun i b hb => by
    obtain ⟨h1, c', h2⟩ := S.pin i b (List.mem_cons_of_mem _ hb)
    refine ⟨h1, c', ?_⟩
    by_cases hi : i = k
    · subst hi; exact absurd hb (hk b)
    · rw [List.getElem?_set_ne (fun z => hi z.symm)]; exact h2
  len := by rw [List.length_set]; exact S.len
  lx := lx_set S.lx h rfl
end
theorem flat_det {K : PySem.W.Frag} {Z Z' : Hp} : ∀ {ds : List D} {vs vs' : List V}, ds.all flatD = true → RpAll K Z vs ds → RpAll K Z' vs' ds → vs = vs'
  | [], _, _, _, .nil, .nil => rfl
  | d :: ds, _, _, h, .cons h1 h2, .cons h3 h4 => by
    rw [List.all_cons, Bool.and_eq_true] at h
    rw [flat_det h.2 h2 h4]
    congr 1
    cases h1 <;> first | (cases h3; rfl) | (exact nomatch h.1)
open Classical in
noncomputable def forO (k : Nat) (ds : List D) (g : D → Rho → Option Rho) (b : Os) : List D → Rho → Mo
  | [], ρ => if ρ[k]? = some (.ow true (.li ds)) then .nx ρ else .st
  | d :: es, ρ => if ρ[k]? = some (.ow true (.li ds)) then match g d ρ with
      | none => .st
      | some ρ1 => match b ρ1 with
        | .nx ρ2 => forO k ds g b es ρ2
        | .ct ρ2 => forO k ds g b es ρ2
        | .bk ρ2 => if ρ2[k]? = some (.ow true (.li ds)) then .nx ρ2 else .st
        | _ => .st
    else .st
noncomputable def oForE (k : Nat) (g : D → Rho → Option Rho) (b : Os) : Os := fun ρ => match ρ[k]? with
  | some (.ow false (.li ds)) => if ds.all flatD = true then match forO k ds g b (enumD 0 ds) (ρ.set k (.ow true (.li ds))) with
      | .nx ρ2 => .nx (ρ2.set k (.ow false (.li ds)))
      | _ => .st
    else .st
  | _ => .st
/-- what is asked of the rest of such a loop -/
def PostO (K : PySem.W.Frag) (G : Gm) (k : Nat) (ds : List D) (Z : Hp) (m : Mo) (D : Ends) : Prop := match m with
  | .nx ρ => ρ[k]? = some (.ow true (.li ds)) ∧ ∀ σ Z' H', Same Z Z' → Sim K G Z' (ρ.set k (.ow false (.li ds))) σ H' → D.nx σ H'
  | _ => False
theorem PostO.mono {K : PySem.W.Frag} {G : Gm} {k : Nat} {ds : List D} {Z Z1 : Hp} {m : Mo} {D : Ends} (h : PostO K G k ds Z m D) (e : Same Z Z1) : PostO K G k ds Z1 m D := by
  cases m with
  | nx ρ => exact ⟨h.1, fun σ Z' H' e' => h.2 σ Z' H' (e.trans e')⟩
  | _ => exact h
section
variable {X : Cx} {G : Gm} {B : Wish} {x : Str} {p px pos tpos : Pos} {elts : List Expr} {kk : Nat} {body : List Stmt}
theorem sd_forE {fpos : Pos} (k : Nat) {T : List Nat} {g : D → Rho → Option Rho} {b : Os} (hp : PassesOwn (model X.prog X.w) X.A X.env X.xe) (hc : X.calm = true) (hge : Gl X "enumerate") (hme : X.mg "enumerate" = none)
    (hg : ∀ G, GD X G (.Tuple elts kk tpos) T g) (hb : ∀ G, BD X G B body b)
    (hN : X.N[k]? = some x := by rfl) (hv : Vis X.env.scope x := by first | exact Or.inl rfl | exact Or.inr (Or.inl rfl) | exact Or.inr (Or.inr rfl)) (hd : (x == ("__debug__" : Str)) = false := by decide)
    (hcd : (x == ("__classdict__" : Str)) = false := by decide)
    (hs1 : starEach [.Name x px] X.env = [(false, eval (.Name x px) X.env)] := by rfl) (hs2 : starEach [.Name x px] X.env = (false, eval (.Name x px) X.env) :: starEach [] X.env := by rfl)
    (hs : ∀ y, foldedSetIterable (.Call (.Name "enumerate" p) [.Name x px] [] pos) X.env y = pure y := by intro _; rfl) :
    SD X G B (.For (.Tuple elts kk tpos) (.Call (.Name "enumerate" p) [.Name x px] [] pos) body [] fpos) (oForE k g b) := by
  have hgU : PG X (.Tuple elts kk tpos) (fun v σ H Q => ∃ G, gRun X.K G T g v σ H Q) := ⟨fun pins s σ H v u Q I r ⟨G, w⟩ => (hg G).run pins s σ H v u Q I r w⟩
  have hbU : PSs X body (fun D σ H => ∃ G, RunS X.K G B b D σ H) := ⟨fun pins s σ H D I ⟨G, w⟩ => (hb G).run pins s σ H D I w⟩
  refine ps_imp (ps_for hp hc (pi_enum hge hme (pa_cons (pe_var (i := k) hN hv hd hcd) pa_nil hs2) hs1) hgU hbU hs) fun D σ H ⟨Z1, ρ1, S1, p1⟩ => ?_
  have p1 : PostS X.K G B Z1 (oForE k g b ρ1) D := p1
  unfold oForE at p1
  split at p1
  · rename_i ds hk
    split at p1
    · rename_i hfl
      obtain ⟨a, o, s1, s2, s3, s4, _, s6⟩ := S1.ow k false _ hk
      have hH0 := s6 rfl
      obtain ⟨vs, rfl, rv⟩ : ∃ vs, o = .lst vs ∧ RpAll X.K Z1 vs ds := by
        cases o <;> first | exact ⟨_, rfl, s3⟩ | exact s3.elim
      have hkp : ∀ b, (k, b) ∉ G.pins := fun b q => by
        obtain ⟨_, c, e⟩ := S1.pin k b q
        rw [hk] at e; cases e
      have S2 := S1.pinK hk s1
      have hset : (ρ1.set k (.ow true (.li ds)))[k]? = some (.ow true (.li ds)) := List.getElem?_set_self (List.getElem?_eq_some_iff.mp hk).1
      refine ⟨V.ref a, s1, a, vs, rfl, SqL.of s2, ?_⟩
      have hgo : PostO X.K G k ds Z1 (forO k ds g b (enumD 0 ds) (ρ1.set k (.ow true (.li ds)))) D := by
        have hnx : ∀ ρ2, forO k ds g b (enumD 0 ds) (ρ1.set k (.ow true (.li ds))) = .nx ρ2 → ρ2[k]? = some (.ow true (.li ds)) := by
          have : ∀ (es : List _) (ρ ρ2 : Rho), forO k ds g b es ρ = .nx ρ2 → ρ2[k]? = some (.ow true (.li ds)) := by
            intro es
            induction es with
            | nil =>
              intro ρ ρ2 e
              unfold forO at e
              split at e
              · cases e; assumption
              · cases e
            | cons d es ih =>
              intro ρ ρ2 e
              unfold forO at e
              split at e
              · split at e
                · cases e
                · split at e
                  · exact ih _ _ e
                  · exact ih _ _ e
                  · split at e
                    · cases e; assumption
                    · cases e
                  · cases e
              · cases e
          exact this _ _
        split at p1
        · rename_i ρ2 he
          rw [he]
          exact ⟨hnx ρ2 he, p1⟩
        · exact p1.elim
      refine for_it (g := fun v σ H Q => ∃ G, gRun X.K G T g v σ H Q) (tb := fun D σ H => ∃ G, RunS X.K G B b D σ H) (D := D) (walk_enum (K := X.K) (a := a) (xs := vs)) (fun i σ' H' => ∃ Z ρ, Sim X.K (G.pn k a) Z ρ σ' H' ∧ Same Z1 Z ∧ PostO X.K G k ds Z (forO k ds g b ((enumD 0 ds).drop i) ρ) D) ⟨Z1, _, S2, .refl _, by rw [List.drop_zero]; exact hgo⟩ ?_ ?_ ?_
      · rintro i σ' H' _ ⟨Z, ρ, S, e, q⟩
        have hρ : ρ[k]? = some (.ow true (.li ds)) := by
          cases hd' : (enumD 0 ds).drop i with
          | nil =>
            rw [hd'] at q
            unfold forO at q
            split at q
            · assumption
            · exact q.elim
          | cons d es =>
            rw [hd'] at q
            unfold forO at q
            split at q
            · assumption
            · exact q.elim
        obtain ⟨b', o', t1, t2, t3, _, _, _⟩ := S.ow k true _ hρ
        have hb' : b' = a := by
          have := (S.pin k a List.mem_cons_self).1
          rw [t1] at this; cases this; rfl
        subst hb'
        obtain ⟨vs', rfl, rv'⟩ : ∃ vs, o' = .lst vs ∧ RpAll X.K Z vs ds := by
          cases o' <;> first | exact ⟨_, rfl, t3⟩ | exact t3.elim
        rw [flat_det hfl rv rv']
        exact SqL.of t2
      · rintro i x σ' H' H2 hi ⟨Z, ρ, S, e, q⟩ y
        obtain ⟨Tq, u, v, rfl, hT, rfl, h1, h2⟩ := y
        cases h1
        obtain ⟨d, hd', rd⟩ := rv.get' h2
        obtain ⟨Z', gr, rx⟩ := pair_still S.zh hT (.int (i : Nat)) (rd.mono e)
        have hen := enumD_get (n := 0) hd'
        rw [Nat.zero_add] at hen
        have hdr : (enumD 0 ds).drop i = .tuple [.int ((i : Nat) : Int), d] :: (enumD 0 ds).drop (i + 1) := by
          have hi' : i < (enumD 0 ds).length := (List.getElem?_eq_some_iff.mp hen).1
          rw [List.drop_eq_getElem_cons hi', (List.getElem?_eq_some_iff.mp hen).2]
        rw [hdr] at q
        unfold forO at q
        split at q
        · cases hg1 : g (.tuple [.int ((i : Nat) : Int), d]) ρ with
          | none => rw [hg1] at q; exact q.elim
          | some ρ2 =>
            rw [hg1] at q
            dsimp only at q
            refine ⟨G.pn k a, Z', ρ, _, ρ2, S.grow gr, rx, hg1, fun σ2 Z2 H3 _ _ e2 S3 => ⟨G.pn k a, Z2, ρ2, S3, ?_⟩⟩
            have e3 : Same Z Z2 := gr.z.trans e2
            cases hb1 : b ρ2 with
            | nx ρ3 =>
              rw [hb1] at q
              exact fun σ4 Z4 H4 e5 S4 => ⟨Z4, ρ3, S4, (e.trans e3).trans e5, PostO.mono q (e3.trans e5)⟩
            | ct ρ3 =>
              rw [hb1] at q
              exact fun σ4 Z4 H4 e5 S4 => ⟨Z4, ρ3, S4, (e.trans e3).trans e5, PostO.mono q (e3.trans e5)⟩
            | bk ρ3 =>
              rw [hb1] at q
              dsimp only at q
              split at q
              · rename_i h3
                exact fun σ4 Z4 H4 e5 S4 => q.2 σ4 Z4 H4 (e3.trans e5) (S4.unpin h3 hH0 hkp)
              · exact q.elim
            | st => rw [hb1] at q; exact q.elim
            | rt r ρ3 => rw [hb1] at q; exact q.elim
            | ex x ρ3 => rw [hb1] at q; exact q.elim
        · exact q.elim
      · rintro σ' H' ⟨Z, ρ, S, e, q⟩
        have hl : (enumD 0 ds).drop vs.length = [] := by
          rw [List.drop_eq_nil_iff, enumD_length, rv.length]; exact Nat.le_refl _
        rw [hl] at q
        unfold forO at q
        split at q
        · rename_i h3
          exact q.2 σ' Z H' (.refl _) (S.unpin h3 hH0 hkp)
        · exact q.elim
    · exact p1.elim
  · exact p1.elim
end
@[simp] theorem ap_forE (k : Nat) (g : D → Rho → Option Rho) (b : Os) (z : Sl) (ρ : Rho) : oForE k g b (z :: ρ) = match (z :: ρ)[k]? with
  | some (.ow false (.li ds)) => if ds.all flatD = true then match forO k ds g b (enumD 0 ds) ((z :: ρ).set k (.ow true (.li ds))) with
      | .nx ρ2 => .nx (ρ2.set k (.ow false (.li ds)))
      | _ => .st
    else .st
  | _ => .st := rfl
theorem forO_nil {k : Nat} {ds : List D} {g : D → Rho → Option Rho} {b : Os} {ρ : Rho} (h : ρ[k]? = some (.ow true (.li ds))) : forO k ds g b [] ρ = .nx ρ := by unfold forO; rw [if_pos h]
theorem forO_cons {k : Nat} {ds : List D} {g : D → Rho → Option Rho} {b : Os} {ρ : Rho} (h : ρ[k]? = some (.ow true (.li ds))) (d : D) (es : List D) : forO k ds g b (d :: es) ρ = match g d ρ with
      | none => .st
      | some ρ1 => match b ρ1 with
        | .nx ρ2 => forO k ds g b es ρ2
        | .ct ρ2 => forO k ds g b es ρ2
        | .bk ρ2 => (open Classical in if ρ2[k]? = some (.ow true (.li ds)) then .nx ρ2 else .st)
        | _ => .st := by
  conv => lhs; unfold forO
  rw [if_pos h]
end Ow
/-! Ow39: own errors: class Base(ValueError) with __init__(self, word, told), class Leaf(.. Base ..) with __init__(self, p): super().__init__("W", p); self.p = p. Made, as the model makes them. -/
namespace PySem
namespace ErX
open PySem.W PySem.Calls PyProof.Rows PySem.HandSPX
def bA (p1 p2 p3 : Pos) : Arguments := { posonlyargs := [], args := [{ arg := "self", annotation := none, pos := p1 }, { arg := "word", annotation := none, pos := p2 }, { arg := "told", annotation := none, pos := p3 }], vararg := none, kwonlyargs := [], kw_defaults := [], kwarg := none, defaults := [] }
def bB (a1 a2 a3 a4 a5 a6 b1 b2 b3 b4 c1 c2 c3 c4 : Pos) : List Stmt :=
  [.Expr (.Call (.Attribute (.Call (.Name "super" a1) [] [] a2) "__init__" a3) [.Name "word" a4] [] a5) a6,
   .Assign [.Attribute (.Name "self" b1) "word" b2] (.Name "word" b3) b4,
   .Assign [.Attribute (.Name "self" c1) "told" c2] (.Name "told" c3) c4]
def bS : Scope := { kind := .function, names := [(PySem.Str.ofString "self", .local), (PySem.Str.ofString "word", .local), (PySem.Str.ofString "told", .local), (PySem.Str.ofString "__class__", .free), (PySem.Str.ofString "super", .globalImplicit)], isGenerator := false, isCoroutine := false, more := [] }
def lA (x : Str) (p1 p2 : Pos) : Arguments := { posonlyargs := [], args := [{ arg := "self", annotation := none, pos := p1 }, { arg := x, annotation := none, pos := p2 }], vararg := none, kwonlyargs := [], kw_defaults := [], kwarg := none, defaults := [] }
def lB (x w : Str) (j : Nat) (a1 a2 a3 a4 a5 a6 a7 b1 b2 b3 b4 : Pos) : List Stmt :=
  [.Expr (.Call (.Attribute (.Call (.Name "super" a1) [] [] a2) "__init__" a3) [.Constant (.str w) j a4, .Name x a5] [] a6) a7,
   .Assign [.Attribute (.Name "self" b1) x b2] (.Name x b3) b4]
def lS (x : Str) : Scope := { kind := .function, names := [(PySem.Str.ofString "self", .local), (x, .local), (PySem.Str.ofString "__class__", .free), (PySem.Str.ofString "super", .globalImplicit)], isGenerator := false, isCoroutine := false, more := [] }
/-- an __init__ that says super(): the function at f, its class D -/
structure Ini (P : Program) (K : Frag) (f D : Addr) (qual : Str) (params : Arguments) (body : List Stmt) (scope : Scope) : Prop where
  ex : ∃ (oc : Value) (od : Option Addr) (osl : Array (Option Value)) (kV doc pm : Value) (an : Option Addr) (cda : Addr) (ct : Value) (cc : Addr) (cl : Value) (cld : Option Addr) (csl : Array (Option Value)) (ccl : Value) (cdd : Option Addr) (ccs : Array (Option Value)) (vs : Array Value) (file : Str) (tf : Tok),
    K.lookup f = some ⟨oc, od, .func (ksFn "__init__" qual params body scope .none kV doc pm an (.ref cda) ct cc), osl⟩ ∧ codeIn K (.ref cda) qual = true ∧
    K.lookup cc = some ⟨cl, cld, .cell (some (.ref D)), csl⟩ ∧ K.lookup cda = some ⟨ccl, cdd, .fields vs, ccs⟩ ∧ vs[2]? = some (.str file tf) ∧ ((P.main.file : Str) == file) = true
  ty : typeIn K (.ref f) = some (.type "function")
  fn : fnIn K f = true
/-- the ground: what stands since the top was run -/
structure Gnd (P : Program) (K : Frag) (mg : Str → Option Value) (base : Heap) : Prop where
  mod : L2.Mod K mg base
  sup : mg "super" = none
  htop : (P.main.scope.names.lookup ("super" : Str)).isSome = false
  opq : nsIn K cStatics "thirdparty.any" = some none
section
variable {prog : Program} {w : World} {A : Around} {E : Value → Shared → Prop} {s : Shared} {K : Frag} {mg : Str → Option Value} {base : Heap} {x C D f : Addr}
theorem ldL {env : Env} {m : Str → Option Value} {x : Str} {pos : Pos} {v : Value} {Q : Value → Shared → Prop} {M : Model} (hn : s.heap.Ns env.locals m) (hv : m x = some v) (h : Q v s)
    (hk : env.scope.kind = .function := by rfl) (hl : env.kindOf x = some .local := by rfl) (hd : (x == ("__debug__" : Str)) = false := by decide) : wpAny M A (eval (.Name x pos) env) Q E s := wpAny_Name (wpAny_loadName_local hk hl hn hv h) hd
/-- super() at the head of an __init__ -/
theorem super_node {body : List Stmt} {q : Str} {scope : Scope} {p0 p1 : Pos} {attr : Str} {whole : Sem Value} {fd : FuncData} {ar : Arg} {vs : Array Value} {file : Str} {tf : Tok} {oc ccl cl : Value} {od cdd cld : Option Addr} {osl ccs csl : Array (Option Value)} {cdD : ClassData} {ox : Obj} {L cda cc : Addr} {m : Str → Option Value} {Q : Value → Shared → Prop}
    (G : Gnd prog K mg base) (hb : ∀ b o, base.get? b = some o → s.heap.get? b = some o) (hn : s.heap.Ns L m)
    (hf : K.lookup f = some ⟨oc, od, .func fd, osl⟩) (hp : (fd.params.posonlyargs ++ fd.params.args).head? = some ar) (hv : m ar.arg = some (.ref x)) (I : InstAt s.heap x ox C odx)
    (hcode : K.lookup cda = some ⟨ccl, cdd, .fields vs, ccs⟩) (hvs : vs[2]? = some (.str file tf)) (hfile : ((prog.main.file : Str) == file) = true)
    (hcell : K.lookup cc = some ⟨cl, cld, .cell (some (.ref D)), csl⟩) (hD : clsIn K D = some cdD) (hsub : mroIn K C (.ref D) = some true)
    (hat : (attr == ("__class__" : Str)) = false) (hks : scope.names.lookup ("super" : Str) = some .globalImplicit) (hkc : scope.names.lookup ("__class__" : Str) = some .free) (hka : scope.names.lookup ar.arg = some .local) (hk : scope.kind = .function)
    (h : ∀ h', h'.get? s.heap.objs.size = some (ks_superObj D x C) → (∀ b o, s.heap.get? b = some o → h'.get? b = some o) → Q (.ref s.heap.objs.size) { s with heap := h' }) :
    _root_.PySem.wpAt (model prog w) A (.func body (ksEnv q scope L f (.ref cda) cc)) (attributeBase (.Call (.Name "super" p0) [] [] p1) attr (ksEnv q scope L f (.ref cda) cc) whole) Q E s := by
  have X : K.In s.heap := G.mod.kin.keeps hb
  obtain ⟨mb, b1, b2⟩ := G.mod.blt
  obtain ⟨hh, g, d, t, os⟩ := s
  obtain ⟨oD, hD1, hD2⟩ : ∃ oD, hh.get? D = some oD ∧ oD.data = .cls cdD := by
    unfold clsIn at hD
    split at hD
    · rename_i c d cd' sl ho
      cases hD
      exact ⟨_, X _ _ ho, rfl⟩
    · cases hD
  refine ks_wpAt_super_base (env := ksEnv q scope L f (.ref cda) cc) hks hkc hat rfl (X _ _ hf) rfl hp rfl (X _ _ hcode) rfl hvs hfile G.htop ?_
  refine ks_loadName_global hk hks (loadGlobal_builtin (env := ksEnv q scope L f (.ref cda) cc) (G.mod.glob.keeps hb) G.sup (b1.keeps hb) ((b2 _ (by decide)).trans (by first | rfl | kernel_rfl)) ⟨rfl, ?_⟩)
  refine wpAny_loadName_free hk hkc rfl ⟨_, X _ _ hcell, rfl⟩ ?_
  refine wpAny_loadName_local hk hka hn hv ?_
  refine ks_wpAny_isType_cls hD1 hD2 ⟨rfl, ?_⟩
  refine ks_wpAny_call_super hD1 hD2 I.at_ I.cls (fun c e => ?_) (looks_mroIn X hsub) (fun h' e k => h h' e k)
  have := I.no
  unfold notCls at this
  rw [e] at this
  exact Bool.noConfusion this
theorem ns_at {h h' : Heap} {a : Addr} {m : Str → Option Value} (hn : h.Ns a m) (k : ∀ o, h.get? a = some o → h'.get? a = some o) : h'.Ns a m :=
  let ⟨o, es, ep, e, r⟩ := hn; ⟨o, es, ep, k _ e, r⟩
theorem eval_meth {o : Expr} {name : Str} {apos pos : Pos} {args : List Expr} {env : Env} (hp : (apos.endLine == pos.line) = true) (hn : (args.length + 0 < 30)) (hs : ((backTo pos (starEach args env)).all (!·.1)) = true) :
    eval (.Call (.Attribute o name apos) args [] pos) env = (do
      let ov ← attributeBase o name env (eval o env)
      standAt apos.atName
      let (f, first) ← holding [ov] (getMethod ov name (do return (← importBound o env).getD true))
      callWith pos f first (backTo pos (starEach args env)) []) := by
  have hf : methodCallForm (args.length + ([] : List Keyword).length) (backTo pos (starEach args env)) (backToKw pos (keywordEach [] env)) = true := by
    unfold methodCallForm
    rw [hs]
    show (true && (true && decide (args.length + 0 + 0 < 30))) = true
    simp only [Bool.true_and, decide_eq_true_eq]
    omega
  show (do
    let ov ← attributeBase o name env (eval o env)
    standAt apos.atName
    methodCall o name apos pos env ov (args.length + ([] : List Keyword).length) (backTo pos (starEach args env)) (backToKw pos (keywordEach [] env))) = _
  unfold methodCall methodCallPos calleeOf
  rw [hf]
  simp only [hp, Bool.not_true, Bool.false_or, if_true, pure_bind]
  rfl
theorem callWith_mw {M : Model} {i : String} {u : Addr} {pos : Pos} {env : Env} {e : Expr} {rest : List Expr} {Q : Value → Shared → Prop}
    (h : wpAny M A (spliced (backTo pos (starEach (e :: rest) env))) (fun vs s₁ => KxsAt i u x s₁.heap ∧ wpAny M A (call (.ref u) vs) Q E s₁) E s)
    (he : starEach (e :: rest) env = (false, eval e env) :: starEach rest env := by rfl) (hplain : (backTo pos (starEach rest env)).any (·.1) = false := by rfl) :
    wpAny M A (callWith pos (.ref u) [] (backTo pos (starEach (e :: rest) env)) []) Q E s := by
  rw [he] at h ⊢
  refine kxs_callWith (i := i) (x := x) (by show (false || (backTo pos (starEach rest env)).any (·.1)) = false; rw [hplain]; rfl) ?_
  exact evalArgs_plain h
theorem callWith_bm {M : Model} {g u : Addr} {self : Value} {pos : Pos} {env : Env} {e : Expr} {rest : List Expr} {Q : Value → Shared → Prop} (hf : fnIn K g = true)
    (h : wpAny M A (spliced (backTo pos (starEach (e :: rest) env))) (fun vs s₁ => MethP K u g self s₁.heap ∧ wpAny M A (call (.ref u) vs) Q E s₁) E s)
    (he : starEach (e :: rest) env = (false, eval e env) :: starEach rest env := by rfl) (hplain : (backTo pos (starEach rest env)).any (·.1) = false := by rfl) :
    wpAny M A (callWith pos (.ref u) [] (backTo pos (starEach (e :: rest) env)) []) Q E s := by
  rw [he] at h ⊢
  exact callWith_of (by show ((false || (backTo pos (starEach rest env)).any (·.1)) || false) = false; rw [hplain]; rfl) (keeps_M hf) (evalArgs_plain h)
/-- ValueError.__init__ bound to x, called -/
theorem call_mw {u t0 : Addr} {rest : List Value} {Q : Value → Shared → Prop} {nm q : Str} {N : Addr} {bs bm : List Value} {hdct : Bool} {sn : List Str} {sub : List Value} {ab : Bool} {col : Option Bool} {dd : Option Addr} {k0 k1 k2 k3 k5 : Option Value}
    (hC : s.heap.get? C = some (excClassObj nm q C N bs bm hdct sn sub ab col dd k0 k1 k2 k3 k5 "ValueError.__new__")) (he : s.heap.get? x = some (excO C t0)) (hu : s.heap.get? u = some (kxs_mw "ValueError.__init__" x)) (hrest : rest.length ≤ sizeLine)
    (hq : ∀ h' t1, (∀ b o, b ≠ x → s.heap.get? b = some o → h'.get? b = some o) → h'.get? x = some (excO C t1) → Q .none { s with heap := h' }) :
    wpAny (model prog w) A (call (.ref u) rest) Q E s := by
  obtain ⟨h, g, d, t, os⟩ := s
  refine wpAny_call (codeAny_of_tree ?_)
  show wpAny _ A.in1 (callAny (.ref u) ⟨rest, []⟩) _ _ _
  simp only [callAny]
  refine wpAny_bind (wpAny_load hu ?_)
  simp only [kxs_mw, show (Value.type "method-wrapper" == Value.type "method" || Value.type "method-wrapper" == Value.type "builtin_function_or_method" || Value.type "method-wrapper" == Value.type "method-wrapper") = true by decide, if_true]
  refine W.KFB.if_so (by decide) ?_
  refine wpAny_bind (ESX.check_bound F.excBase_ValueError hC he rfl ?_)
  refine wpAny_bind (wpAny_pure (wpAny_pure ?_))
  refine ⟨Code.quiet_builtin _ (by decide +kernel), codeAny_builtin F.excBase_ValueError.initEntry ?_⟩
  rw [Around.under_plainId F.excBase_ValueError.init.plain _]
  wp_walk
  refine hq _ h.objs.size (fun b o hb ho => ?_) ?_
  · rw [Heap.get?_update_other _ _ (Ne.symm hb)]
    exact Heap.get?_push_of_some _ ho
  · rw [Heap.get?_update_self _ (Heap.get?_push_of_some _ he) rfl]
    rfl
/-- what the written part says of an own error's class C, over the base B -/
structure Cls (K : Frag) (C B : Addr) : Prop where
  cls : ∃ nm q N bs bm sn sub ab col dd k0 k1 k2 k3 k5, K.lookup C = some (excClassObj nm q C N bs bm true sn sub ab col dd k0 k1 k2 k3 k5 "ValueError.__new__") ∧ refsVE bm = true
  sa : findIn K (.ref C) "__setattr__" = some (some (.builtin "object.__setattr__"))
  exC : subIn K (.ref C) (.type "BaseException") = some true
  veC : subIn K (.ref C) (.type "ValueError") = some true
  tyC : typeIn K (.ref C) = some (.type "type")
  kC : keepIn K (.ref C) = true
  cB : (clsIn K B).isSome = true
  mB : mroIn K C (.ref B) = some true
  sB : ks_superIn K C B "__init__" = some (some (.builtin "ValueError.__init__"))
  nw : findIn K (.ref C) "word" = some none
  nt : findIn K (.ref C) "told" = some none
structure Made (h h' : Heap) (x C dx t1 : Addr) (m : Str → Option Value) : Prop where
  keep : ∀ b o, b ≠ x → h.get? b = some o → h'.get? b = some o
  obj : h'.get? x = some { cls := .ref C, dict := some dx, data := .fields #[.ref t1, .none, .none, .none, .bool false, .none] }
  dbig : h.objs.size ≤ dx
  dne : dx ≠ x
  ns : h'.Ns1 dx m
def m2 (wv v : Value) : Str → Option Value := fun y => if y = "told" then some v else if y = "word" then some wv else none
theorem base_init {B fB : Addr} {q : Str} {p1 p2 p3 a1 a2 a3 a4 a5 a6 b1 b2 b3 b4 c1 c2 c3 c4 : Pos} {R : Result → Shared → Prop} {wv v : Value} {t0 : Addr} (G : Gnd prog K mg base) (T : Ini prog K fB B q (bA p1 p2 p3) (bB a1 a2 a3 a4 a5 a6 b1 b2 b3 b4 c1 c2 c3 c4) bS) (Y : Cls K C B) (hp : (a3.endLine == a5.line) = true)
    (hb : ∀ b o, base.get? b = some o → s.heap.get? b = some o) (hxb : base.get? x = none) (hx : s.heap.get? x = some (excO C t0)) (hroom : A.depth < recursionLimit)
    (hq : ∀ h' tk t1 dx, Made s.heap h' x C dx t1 (m2 wv v) → R (.ok (.ret .none)) { s with heap := h', toks := tk }) :
    codeAny (model prog w) A (.call (.ref fB) ⟨[.ref x, wv, v], []⟩) R s := by
  obtain ⟨oc, od, osl, kV, doc, pm, an, cda, ct, cc, cl, cld, csl, ccl, cdd, ccs, vs, file, tf, hf, hcd, hcell, hcode, hvs, hfile⟩ := T.ex
  obtain ⟨nm, qn, N, bs, bm, sn, sub, ab, col, dd, k0, k1, k2, k3, k5, hC, hbm⟩ := Y.cls
  obtain ⟨cdB, hB⟩ := Option.isSome_iff_exists.mp Y.cB
  have hcl : clsIn K C = some { name := nm, bases := bs, mro := .ref C :: bm, ns := N, qualname := qn, hasDict := true, slotNames := sn, subclasses := sub, abstract := ab, collection := col, hasDel := false } := by unfold clsIn; rw [hC] <;> rfl
  have X : K.In s.heap := G.mod.kin.keeps hb
  refine ks_codeAny_call_defAt (fd := ksFn "__init__" q _ _ bS .none kV doc pm an (.ref cda) ct cc) (body := bB a1 a2 a3 a4 a5 a6 b1 b2 b3 b4 c1 c2 c3 c4) (binds := [("self", .ref x), ("word", wv), ("told", v)]) hroom (X _ _ hf) rfl (G.mod.nolimit.keeps hb) (codeRec_of X hcd) rfl (BindsTo.of_eq (by first | rfl | with_unfolding_all rfl)) (show ∀ y ∈ bS.names, y.2 ≠ .cell from by decide) (by
    intro y hy
    simp only [List.mem_cons, List.not_mem_nil, or_false] at hy
    rcases hy with rfl | rfl | rfl <;> rfl) (fun h₁ hns hk₁ => ?_) rfl rfl rfl
  have hL : ∀ b o, s.heap.get? b = some o → b ≠ s.heap.objs.size := fun b o e => Nat.ne_of_lt (Heap.lt_size e)
  have hx₁ := hk₁ _ _ hx
  have hb₁ : ∀ b o, base.get? b = some o → h₁.get? b = some o := fun b o e => hk₁ _ _ (hb _ _ e)
  have I₁ : InstAt h₁ x (excO C t0) C none := ⟨hx₁, rfl, rfl, trivial⟩
  show _root_.PySem.wpAt (model prog w) _ (.func _ (ksEnv q bS s.heap.objs.size fB (.ref cda) cc)) (execs _ (ksEnv q bS s.heap.objs.size fB (.ref cda) cc)) _ _ _
  refine ks_wpAt_execs_cons (ks_wpAt_Expr_any (ks_wpAt_MethodCall ?_ (eval_meth hp (show 1 + 0 < 30 by decide) rfl)))
  refine super_node (s := { s with heap := h₁, toks := s.toks + [("self", Value.ref x), ("word", wv), ("told", v)].length }) (ar := { arg := "self", annotation := none, pos := p1 }) (x := x) (C := C) (ox := excO C t0) (odx := none) G hb₁ hns hf rfl rfl I₁ hcode hvs hfile hcell hB Y.mB (by decide) rfl rfl rfl rfl (fun h₂ hso k₂ => ?_)
  have hb₂ : ∀ b o, base.get? b = some o → h₂.get? b = some o := fun b o e => k₂ _ _ (hb₁ _ _ e)
  have X₂ : K.In h₂ := G.mod.kin.keeps hb₂
  have hx₂ := k₂ _ _ hx₁
  have I₂ : InstAt h₂ x (excO C t0) C none := ⟨hx₂, rfl, rfl, trivial⟩
  have hxC : x ≠ C := ks_ne X₂ I₂ hcl
  have hm := Y.sB
  unfold ks_superIn at hm
  rw [hcl] at hm
  have hI : Looks (model prog w) h₂ (isInstance (.ref x) (.type "ValueError")) true := I₂.type.andThen (looks_subIn X₂ Y.veC)
  refine kxs_getMethod kxs_ValueError hso (looks_opaque X₂ G.opq) (l₀ := .ref C :: bm) (fun A Q E s k q => wpAny_bind ((looks_clsIn X₂ hcl) A _ E s k (wpAny_pure q))) rfl X₂ hm hI hxC (by decide) ?_
  have k₃ : ∀ b o, h₂.get? b = some o → (h₂.push (kxs_mw "ValueError.__init__" x)).get? b = some o := fun b o e => Heap.get?_push_of_some _ e
  have hu : (h₂.push (kxs_mw "ValueError.__init__" x)).get? h₂.objs.size = some (kxs_mw "ValueError.__init__" x) := Heap.get?_push_at rfl rfl
  refine callWith_mw (x := x) (i := "ValueError.__init__") ?_
  refine spliced_cons (ldL (v := wv) ((hns.keeps k₂).keeps k₃) rfl ?_)
  refine wpAny_pure ⟨hu, ?_⟩
  have hC₃ := k₃ _ _ (X₂ _ _ hC)
  refine call_mw hC₃ (k₃ _ _ hx₂) hu (by rw [sizeLine_eq]; show 1 ≤ 16777216; decide) fun h₄ t1 k₄ hx₄ => ?_
  -- self.word = word
  have kk : ∀ b o, b ≠ x → h₁.get? b = some o → h₄.get? b = some o := fun b o n e => k₄ b o n (k₃ _ _ (k₂ _ _ e))
  have hLx : s.heap.objs.size ≠ x := fun e => hL x _ hx e.symm
  have hns₄ := ns_at hns (kk _ · hLx)
  have hb₄ : ∀ b o, base.get? b = some o → h₄.get? b = some o := fun b o e => kk b o (fun z => by rw [z, hxb] at e; cases e) (hb₁ _ _ e)
  have X₄ : K.In h₄ := G.mod.kin.keeps hb₄
  refine wpAt_of_wpAny ?_
  show wpAny _ _ (execs _ _) _ _ _
  refine wpAny_execs_cons (plainObj_wpAny_Assign_Attribute ?_)
  refine ldL (v := wv) hns₄ rfl (ldL (v := .ref x) hns₄ rfl ?_)
  refine set_plain X₄ (ox := excO C t1) (od := none) ⟨hx₄, rfl, rfl, trivial⟩ Y.sa ?_
  refine exc_osa X₄ hx₄ hcl (show refsVE (.ref C :: bm) = true from hbm) rfl Y.nw (fun h₅ tk₅ dx k₅ dn dne hx₅ hn₅ => ?_)
  have hns₅ := ns_at hns₄ (k₅ _ · hLx)
  have hb₅ : ∀ b o, base.get? b = some o → h₅.get? b = some o := fun b o e => k₅ b o (fun z => by rw [z, hxb] at e; cases e) (hb₄ _ _ e)
  have X₅ : K.In h₅ := G.mod.kin.keeps hb₅
  show wpAny _ _ (execs _ _) _ _ _
  refine wpAny_execs_cons (plainObj_wpAny_Assign_Attribute ?_)
  refine ldL (v := v) hns₅ rfl (ldL (v := .ref x) hns₅ rfl ?_)
  have hw5 : Within (fun y : Str => if y = "word" then some wv else none) [("word" : Str)] := fun y hy => by
    by_cases e : y = "word"
    · rw [e]; exact List.mem_cons_self
    · exact absurd (if_neg e) hy
  obtain ⟨oD, _, _, hoD, _, _⟩ := hn₅.count hw5
  refine set_plain X₅ (ox := { cls := .ref C, dict := some dx, data := .fields #[.ref t1, .none, .none, .none, .bool false, .none] }) (od := some oD) ⟨hx₅, rfl, rfl, hoD⟩ Y.sa ?_
  refine OEX.osa_old X₅ hx₅ hn₅ hw5 (show 1 ≤ 1000 by decide) hcl (show refsVE (.ref C :: bm) = true from hbm) rfl Y.nt (fun h₆ tk₆ k₆ hn₆ => ?_)
  have sz : s.heap.objs.size ≤ h₄.objs.size := by
    have : s.heap.objs.size < h₄.objs.size := hns₄.lt
    omega
  have old : ∀ b o, b ≠ x → s.heap.get? b = some o → h₆.get? b = some o := fun b o n e => k₆ b o (fun z => absurd (Heap.lt_size e) (by rw [z]; exact Nat.not_lt.mpr (Nat.le_trans sz dn))) (k₅ b o n (kk b o n (hk₁ _ _ e)))
  refine wpAny_execs_nil (hq h₆ _ t1 dx ⟨old, k₆ x _ dne.symm hx₅, Nat.le_trans sz dn, dne, ?_⟩)
  exact hn₆
def m3 (p : Str) (wv v : Value) : Str → Option Value := fun y => if y = p then some v else m2 wv v y
theorem leaf_init {B fB fI : Addr} {q qB p W : Str} {j : Nat} {g1 g2 a1 a2 a3 a4 a5 a6 a7 b1 b2 b3 b4 P1 P2 P3 A1 A2 A3 A4 A5 A6 B1 B2 B3 B4 C1 C2 C3 C4 : Pos} {R : Result → Shared → Prop} {v : Value} {t0 : Addr}
    (G : Gnd prog K mg base) (T : Ini prog K fI C q (lA p g1 g2) (lB p W j a1 a2 a3 a4 a5 a6 a7 b1 b2 b3 b4) (lS p)) (TB : Ini prog K fB B qB (bA P1 P2 P3) (bB A1 A2 A3 A4 A5 A6 B1 B2 B3 B4 C1 C2 C3 C4) bS) (Y : Cls K C B)
    (hsup : ks_superIn K C C "__init__" = some (some (.ref fB))) (hCC : mroIn K C (.ref C) = some true) (hno : findIn K (.ref C) p = some none) (hp : (a3.endLine == a6.line) = true) (hpB : (A3.endLine == A5.line) = true)
    (n1 : p ≠ "self") (n2 : (p == ("__debug__" : Str)) = false) (hk1 : (lS p).names.lookup p = some .local) (hk3 : (lS p).names.lookup ("super" : Str) = some .globalImplicit) (hk4 : (lS p).names.lookup ("__class__" : Str) = some .free)
    (hbi : ∀ (s : Shared) (kV doc pm : Value) (an : Option Addr) (cda ct : Value) (cc : Addr) (a b : Value), BindsTo s (ksFn "__init__" q (lA p g1 g2) (lB p W j a1 a2 a3 a4 a5 a6 a7 b1 b2 b3 b4) (lS p) .none kV doc pm an cda ct cc) ⟨[a, b], []⟩ [("self", a), (p, b)])
    (hb : ∀ b o, base.get? b = some o → s.heap.get? b = some o) (hxb : base.get? x = none) (hx : s.heap.get? x = some (excO C t0)) (hroom : A.depth + 1 < recursionLimit)
    (hq : ∀ h' tk t1 dx tw, Made s.heap h' x C dx t1 (m3 p (.str W tw) v) → R (.ok (.ret .none)) { s with heap := h', toks := tk }) :
    codeAny (model prog w) A (.call (.ref fI) ⟨[.ref x, v], []⟩) R s := by
  obtain ⟨oc, od, osl, kV, doc, pm, an, cda, ct, cc, cl, cld, csl, ccl, cdd, ccs, vs, file, tf, hf, hcd, hcell, hcode, hvs, hfile⟩ := T.ex
  obtain ⟨nm, qn, N, bs, bm, sn, sub, ab, col, dd, k0, k1, k2, k3, k5, hC, hbm⟩ := Y.cls
  have hcl : clsIn K C = some { name := nm, bases := bs, mro := .ref C :: bm, ns := N, qualname := qn, hasDict := true, slotNames := sn, subclasses := sub, abstract := ab, collection := col, hasDel := false } := by unfold clsIn; rw [hC] <;> rfl
  have X : K.In s.heap := G.mod.kin.keeps hb
  refine ks_codeAny_call_defAt (fd := ksFn "__init__" q _ _ (lS p) .none kV doc pm an (.ref cda) ct cc) (body := lB p W j a1 a2 a3 a4 a5 a6 a7 b1 b2 b3 b4) (binds := [("self", .ref x), (p, v)]) (Nat.lt_of_succ_lt hroom) (X _ _ hf) rfl (G.mod.nolimit.keeps hb) (codeRec_of X hcd) rfl (hbi _ _ _ _ _ _ _ _ _ _) (show ∀ y ∈ (lS p).names, y.2 ≠ .cell from by
    intro y hy
    simp only [lS, List.mem_cons, List.not_mem_nil, or_false] at hy
    rcases hy with rfl | rfl | rfl | rfl <;> (intro z; cases z)) (by
    intro y hy
    simp only [List.mem_cons, List.not_mem_nil, or_false] at hy
    rcases hy with rfl | rfl
    · rfl
    · exact hk1) (fun h₁ hns hk₁ => ?_) rfl rfl rfl
  have hL : ∀ b o, s.heap.get? b = some o → b ≠ s.heap.objs.size := fun b o e => Nat.ne_of_lt (Heap.lt_size e)
  have hx₁ := hk₁ _ _ hx
  have hb₁ : ∀ b o, base.get? b = some o → h₁.get? b = some o := fun b o e => hk₁ _ _ (hb _ _ e)
  have I₁ : InstAt h₁ x (excO C t0) C none := ⟨hx₁, rfl, rfl, trivial⟩
  have gSelf : List.lookup ("self" : Str) ([(("self" : Str), Value.ref x), (p, v)].reverse) = some (.ref x) := by
    have e : (("self" : Str) == p) = false := by simpa using Ne.symm n1
    simp [List.lookup, e]
  have gP : List.lookup p ([(("self" : Str), Value.ref x), (p, v)].reverse) = some v := by simp [List.lookup]
  show _root_.PySem.wpAt (model prog w) _ (.func _ (ksEnv q (lS p) s.heap.objs.size fI (.ref cda) cc)) (execs _ (ksEnv q (lS p) s.heap.objs.size fI (.ref cda) cc)) _ _ _
  refine ks_wpAt_execs_cons (ks_wpAt_Expr_any (ks_wpAt_MethodCall ?_ (eval_meth hp (show 2 + 0 < 30 by decide) rfl)))
  refine super_node (s := { s with heap := h₁, toks := s.toks + ([(("self" : Str), Value.ref x), (p, v)] : List (Str × Value)).length }) (ar := { arg := "self", annotation := none, pos := g1 }) (x := x) (C := C) (ox := excO C t0) (odx := none) G hb₁ hns hf rfl gSelf I₁ hcode hvs hfile hcell hcl hCC (by decide) hk3 hk4 rfl rfl (fun h₂ hso k₂ => ?_)
  have hb₂ : ∀ b o, base.get? b = some o → h₂.get? b = some o := fun b o e => k₂ _ _ (hb₁ _ _ e)
  have X₂ : K.In h₂ := G.mod.kin.keeps hb₂
  have hx₂ := k₂ _ _ hx₁
  have I₂ : InstAt h₂ x (excO C t0) C none := ⟨hx₂, rfl, rfl, trivial⟩
  have hxC : x ≠ C := ks_ne X₂ I₂ hcl
  have hm := hsup
  unfold ks_superIn at hm
  rw [hcl] at hm
  obtain ⟨of, hof, hofc⟩ : ∃ of, h₂.get? fB = some of ∧ of.cls = .type "function" := by
    have ht' : (K.lookup fB).map (·.cls) = some (.type "function") := TB.ty
    cases z : K.lookup fB with
    | none => rw [z] at ht'; cases ht'
    | some of => rw [z] at ht'; exact ⟨of, X₂ _ _ z, Option.some.inj ht'⟩
  refine ks_wpAny_getMethod_super hso (looks_opaque X₂ G.opq) (l₀ := .ref C :: bm) (fun A Q E s k q => wpAny_bind ((looks_clsIn X₂ hcl) A _ E s k (wpAny_pure q))) rfl X₂ hm hof hofc hxC (by decide) ?_
  have k₃ : ∀ b o, h₂.get? b = some o → (h₂.push (methodObj (.ref fB) (.ref x))).get? b = some o := fun b o e => Heap.get?_push_of_some _ e
  have hu : (h₂.push (methodObj (.ref fB) (.ref x))).get? h₂.objs.size = some (methodObj (.ref fB) (.ref x)) := Heap.get?_push_at rfl rfl
  have hb₃ : ∀ b o, base.get? b = some o → (h₂.push (methodObj (.ref fB) (.ref x))).get? b = some o := fun b o e => k₃ _ _ (hb₂ _ _ e)
  refine callWith_bm (g := fB) (self := .ref x) TB.fn ?_
  refine spliced_cons (wpAny_eval_const rfl fun v1 tk1 hv1 => ?_)
  have ev1 : ∃ tw, v1 = .str W tw := by
    first
      | exact hv1
      | (obtain ⟨tw, e⟩ := hv1; exact ⟨tw, e⟩)
      | (cases hv1; exact ⟨_, rfl⟩)
  obtain ⟨tw, rfl⟩ := ev1
  refine spliced_cons (ldL (v := v) ((hns.keeps k₂).keeps k₃) gP ?_ rfl hk1 n2)
  refine wpAny_pure ⟨⟨hu, G.mod.kin.keeps hb₃⟩, ?_⟩
  refine wpAny_call (method_call hu ?_)
  refine base_init (x := x) (C := C) (t0 := t0) G TB Y hpB hb₃ hxb (k₃ _ _ hx₂) hroom fun h₅ tk₅ t1 dx M => ?_
  -- self.p = p
  have kk : ∀ b o, b ≠ x → h₁.get? b = some o → h₅.get? b = some o := fun b o n e => M.keep b o n (k₃ _ _ (k₂ _ _ e))
  have hLx : s.heap.objs.size ≠ x := fun e => hL x _ hx e.symm
  have hns₅ := ns_at hns (kk _ · hLx)
  have hb₅ : ∀ b o, base.get? b = some o → h₅.get? b = some o := fun b o e => kk b o (fun z => by rw [z, hxb] at e; cases e) (hb₁ _ _ e)
  have X₅ : K.In h₅ := G.mod.kin.keeps hb₅
  have hx₅ := M.obj
  have hn₅ := M.ns
  refine wpAt_of_wpAny ?_
  show wpAny _ _ (execs _ _) _ _ _
  refine wpAny_execs_cons (plainObj_wpAny_Assign_Attribute ?_)
  refine ldL (v := v) hns₅ gP (ldL (v := .ref x) hns₅ gSelf ?_) rfl hk1 n2
  have hw5 : Within (m2 (.str W tw) v) [("told" : Str), "word"] := fun y hy => by
    by_cases e : y = "told"
    · rw [e]; exact List.mem_cons_self
    · by_cases e2 : y = "word"
      · rw [e2]; exact List.mem_cons_of_mem _ List.mem_cons_self
      · exact absurd ((if_neg e).trans (if_neg e2)) hy
  obtain ⟨oD, _, _, hoD, _, _⟩ := hn₅.count hw5
  refine set_plain X₅ (ox := { cls := .ref C, dict := some dx, data := .fields #[.ref t1, .none, .none, .none, .bool false, .none] }) (od := some oD) ⟨hx₅, rfl, rfl, hoD⟩ Y.sa ?_
  refine OEX.osa_old X₅ hx₅ hn₅ hw5 (show 2 ≤ 1000 by decide) hcl (show refsVE (.ref C :: bm) = true from hbm) rfl hno (fun h₆ tk₆ k₆ hn₆ => ?_)
  have s1 : s.heap.objs.size ≤ h₁.objs.size := by
    have : s.heap.objs.size < h₁.objs.size := hns.lt
    omega
  have s2 : s.heap.objs.size < (h₂.push (methodObj (.ref fB) (.ref x))).objs.size := ((hns.keeps k₂).keeps k₃).lt
  have sz : s.heap.objs.size ≤ dx := by
    have := M.dbig
    exact Nat.le_of_lt (Nat.lt_of_lt_of_le s2 this)
  have old : ∀ b o, b ≠ x → s.heap.get? b = some o → h₆.get? b = some o := fun b o n e => k₆ b o (fun z => absurd (Heap.lt_size e) (by rw [z]; exact Nat.not_lt.mpr sz)) (kk b o n (hk₁ _ _ e))
  exact wpAny_execs_nil (hq h₆ _ t1 dx tw ⟨old, k₆ x _ M.dne.symm hx₅, sz, M.dne, hn₆⟩)
end
end ErX
end PySem
/-! Ow40: own errors, raised and let out of a def -/
namespace L2
open PySem PySem.Spec PyProof.Rows
/-- what stands of the error class x (its word W, its field p), at C -/
structure ErrT (P : Program) (K : PySem.W.Frag) (mg : Str → Option Value) (x W p : Str) (C : Addr) : Prop where
  gC : mg x = some (.ref C)
  nC : PySem.W.nsIn K mainGlobals x = some (some (.ref C))
  Y : ∃ B, PySem.ErX.Cls K C B
  ini : ∃ fI, PySem.W.findIn K (.ref C) "__init__" = some (some (.ref fI)) ∧ PySem.W.typeIn K (.ref fI) = some (.type "function") ∧
    ∀ (w : World) (base : Heap) (A : Around) (s : Shared) (R : Result → Shared → Prop) (x0 t0 : Addr) (v : Value), Mod K mg base → (∀ b o, base.get? b = some o → s.heap.get? b = some o) → base.get? x0 = none → s.heap.get? x0 = some (PySem.HandSPX.excO C t0) → A.depth + 1 < recursionLimit →
      (∀ h' tk t1 dx tw, PySem.ErX.Made s.heap h' x0 C dx t1 (PySem.ErX.m3 p (.str W tw) v) → R (.ok (.ret .none)) { s with heap := h', toks := tk }) → codeAny (model P w) A (.call (.ref fI) ⟨[.ref x0, v], []⟩) R s
theorem one_size (v : Value) : [v].length ≤ sizeLine := by
  rw [sizeLine_eq]
  exact (by decide : 1 ≤ 16777216)
def errF (W p : Str) (v : V) : List (Str × V) := [(p, v), (("told" : Str), v), (("word" : Str), V.str W)]
theorem relO_err {W p : Str} {tw : Tok} {v : V} {u : Value} (r : RelV v u) (f : Str) : RelO (List.lookup f (errF W p v)) (PySem.ErX.m3 p (.str W tw) u f) := by
  unfold errF PySem.ErX.m3 PySem.ErX.m2
  by_cases h1 : f = p
  · subst h1
    simp [List.lookup]
    exact r
  · rw [if_neg h1]
    have e1 : (f == p) = false := by simpa using h1
    by_cases h2 : f = "told"
    · subst h2
      rw [if_pos rfl]
      have q : List.lookup ("told" : Str) [(p, v), (("told" : Str), v), (("word" : Str), V.str W)] = some v := by simp [List.lookup, e1]
      rw [q]
      exact r
    · rw [if_neg h2]
      have e2 : (f == ("told" : Str)) = false := by simpa using h2
      by_cases h3 : f = "word"
      · subst h3
        rw [if_pos rfl]
        have q : List.lookup ("word" : Str) [(p, v), (("told" : Str), v), (("word" : Str), V.str W)] = some (V.str W) := by simp [List.lookup, e1, e2]
        rw [q]
        exact ⟨_, rfl⟩
      · rw [if_neg h3]
        have e3 : (f == ("word" : Str)) = false := by simpa using h3
        have q : List.lookup f [(p, v), (("told" : Str), v), (("word" : Str), V.str W)] = none := by simp [List.lookup, e1, e2, e3]
        rw [q]
        trivial
def tMkE (C : Addr) (W p : Str) (ta : TA) : St → Hp → XK → Prop := fun σ H Q => ta σ H fun vs H1 => ∃ v, vs = [v] ∧ ∀ d, H1 d = none → Q (.ref C) (some d) (upd H1 d (.xd (errF W p v)))
section
variable {X : Cx} {C : Addr} {x W p : Str}
theorem pmk_err {a : Expr} {ta : TA} {pp pos : Pos} {k : Nat} (T : ErrT X.prog X.K X.mg x W p C) (hr : Room (k + 1) X.A) (ha : PA X [a] ta) (hg : Gl X x := by rfl) (hdb : (x == ("__debug__" : Str)) = false := by decide)
    (he : starEach (a :: []) X.env = (false, eval a X.env) :: starEach [] X.env := by rfl) (hpl : (backTo pos (starEach [] X.env)).any (·.1) = false := by rfl) :
    L2N.PMk X (.Call (.Name x pp) [a] [] pos) (tMkE C W p ta) := by
  intro pins s σ H Q I h
  obtain ⟨B, Y⟩ := T.Y
  obtain ⟨fI, iC, tI, run⟩ := T.ini
  obtain ⟨nm, q, N, bs, bm, sn, sub, ab, col, dd, k0, k1, k2, k3, k5, hC, hbm⟩ := Y.cls
  refine wpAny_Call_Name_kw (ld_glob I hg T.gC ?_ hdb)
  refine PySem.W.callWith_K (h₀ := X.base) I.ok.mod.kin Y.kC (thn (ha.run pos pins s σ H _ I h) fun us s1 hh => ?_) he hpl
  obtain ⟨vs, H1, I1, r1, v, ev, q1⟩ := hh
  subst ev
  refine ⟨I1.kIn, ?_⟩
  show wpAny _ _ (call (.ref C) us) _ _ _
  obtain ⟨u, rfl, rv⟩ : ∃ u, us = [u] ∧ RelV v u := by
    cases r1 with
    | cons h1 h2 => cases h2; exact ⟨_, rfl, h1⟩
  have bk := I1.bk
  have mod := I1.ok.mod
  obtain ⟨hp, g, dr, tk, os⟩ := s1
  have kk : ∀ b o, hp.get? b = some o → ((hp.push (PySem.W.kdv_tup [u])).push (PySem.HandSPX.excO C hp.objs.size)).get? b = some o := fun b o e => Heap.get?_push_of_some _ (Heap.get?_push_of_some _ e)
  have hget : ((hp.push (PySem.W.kdv_tup [u])).push (PySem.HandSPX.excO C hp.objs.size)).get? (hp.objs.size + 1) = some (PySem.HandSPX.excO C hp.objs.size) := by heap_get
  have hbx : X.base.get? (hp.objs.size + 1) = none := by
    cases e : X.base.get? (hp.objs.size + 1) with
    | none => rfl
    | some o => exact absurd (Nat.lt_of_succ_lt (Heap.lt_size (bk _ _ e))) (Nat.lt_irrefl _)
  refine wpAny_call (PySem.HandSPX.call_own F.excBase_ValueError (fun Z => PySem.HandSPX.refsVE_contains Z bm hbm) (I1.kIn _ _ hC) (PySem.W.looks_findIn I1.kIn iC) (fun self => PySem.W.bind_fn I1.kIn self tI) (one_size u) ?_)
  refine run X.w X.base _ ⟨(hp.push (PySem.W.kdv_tup [u])).push (PySem.HandSPX.excO C hp.objs.size), g, dr, tk, os⟩ _ (hp.objs.size + 1) hp.objs.size u mod (fun b o e => kk _ _ (bk _ _ e)) hbx hget ?_ fun h' tk' t1 d tw M => ?_
  · rw [make_depth]
    have := hr.dp
    omega
  · have M2 := M.keep
    have hd0 : ((hp.push (PySem.W.kdv_tup [u])).push (PySem.HandSPX.excO C hp.objs.size)).objs.size = hp.objs.size + 2 := by
      rw [Heap.size_push, Heap.size_push]
    have dbig : hp.objs.size + 2 ≤ d := by
      have := M.dbig
      rw [hd0] at this
      exact this
    have nold : ∀ b o, hp.get? b = some o → b ≠ hp.objs.size + 1 := fun b o q => Nat.ne_of_lt (Nat.lt_succ_of_lt (Heap.lt_size q))
    have keep : ∀ b o, hp.get? b = some o → h'.get? b = some o := fun b o q => M2 b o (nold b o q) (kk b o q)
    refine ⟨rfl, ?_⟩
    show L2N.MkP X pins σ Q (.ref (hp.objs.size + 1)) ⟨h', g, dr, tk', os⟩
    obtain ⟨G', g1, g2⟩ := restrict h' fun b => decide (b ≠ hp.objs.size + 1)
    have gk : ∀ b, b ≠ hp.objs.size + 1 → G'.get? b = h'.get? b := fun b hb => g1 b (decide_eq_true hb)
    have ge : G'.get? (hp.objs.size + 1) = none := g2 _ (by simp)
    have old : ∀ b o, hp.get? b = some o → G'.get? b = some o := fun b o q => (gk b (nold b o q)).trans (keep b o q)
    have ob : ObjOk X.prog X.w (upd H1 d (.xd (errF W p v))) G' d (.xd (errF W p v)) :=
      ⟨_, M.ns.at (fun o q => (gk d M.dne).trans q), fun f => relO_err rv f⟩
    have J : Inv X pins σ (upd H1 d (.xd (errF W p v))) ⟨G', g, dr, tk', os⟩ := I1.laid (t' := tk') old (show hp.objs.size ≤ d by omega) ob
    refine ⟨hp.objs.size + 1, _, _, ⟨G', g, dr, tk', os⟩, _, .ref C, some d, rfl, J, fun b o q => ?_, ge, M.obj, ⟨rfl, rfl, fun vs q => by cases q; rfl⟩, rfl, rfl, ?_, rfl, I1.bare, raises_own Y.exC Y.tyC, q1 d (I1.hok.fresh (show hp.objs.size ≤ d by omega))⟩
    · by_cases hb : b = hp.objs.size + 1
      · have q' : G'.get? b = some o := q
        rw [hb, ge] at q'; cases q'
      · exact (gk b hb).symm.trans q
    · rw [upd_ne (Ne.symm M.dne)]
      exact I1.hok.fresh (show hp.objs.size ≤ hp.objs.size + 1 by omega)
end
end L2
/-! Ow41: raise, calls that raise, try .. except .. as, in plain programs -/
namespace Ow
open PySem PySem.Spec PyProof.Rows L2
def wishW (K : PySem.W.Frag) (H0 : Hp) (W : WX) : Wish := fun x ρ Z σ H => ∀ cls d, XnR K Z x cls d H → (∀ dd, d = some dd → H0 dd = none) → W cls d σ H
/-- raise C(e) -/
def oRaise (x W p : Str) (o : O D) : Os := fun ρ => (o ρ).bindS fun d ρ1 => .ex ⟨x, [(p, d), (("told" : Str), d), (("word" : Str), .str W)]⟩ ρ1
section
variable {X : Cx} {G : Gm} {W' : WX} {x W p : Str} {C : Addr}
theorem sd_raise {a : Expr} {o : O D} {pp pos pos2 : Pos} {k : Nat} (T : ErrT X.prog X.K X.mg x W p C) (hc : X.calm = true) (tk : L2N.Takes X W') (hr : Room (k + 1) X.A) (ha : PD X G (wishW X.K G.H0 W') a o) (hg : Gl X x := by rfl) (hdb : (x == ("__debug__" : Str)) = false := by decide)
    (he : starEach (a :: []) X.env = (false, eval a X.env) :: starEach [] X.env := by rfl) (hpl : (backTo pos (starEach [] X.env)).any (·.1) = false := by rfl) :
    SD X G (wishW X.K G.H0 W') (.Raise (some (.Call (.Name x pp) [a] [] pos)) none pos2) (oRaise x W p o) := by
  refine ps_imp (L2N.ps_raise hc tk (pmk_err T hr (qd_cons ha qd_nil he) hg hdb he hpl)) ?_
  rintro D σ H ⟨Z, ρ, S, q⟩
  refine ⟨Z, ρ, S, ?_⟩
  unfold oRaise at q
  unfold oCons oNil
  cases ho : o ρ with
  | st => rw [ho] at q; exact q.elim
  | ex y ρ1 => rw [ho] at q; exact fun Z' H' e S' => q σ Z' H' e S'
  | ok d ρ1 =>
    rw [ho] at q
    intro vs Z' H' e' S' r
    have r' : RpAll X.K Z' vs [d] := r
    cases r' with
    | @cons v1 _ _ _ rv rn =>
      cases rn
      refine ⟨_, rfl, fun dn hdn => ?_⟩
      have g : Grow Z' H' Z' (upd H' dn (.xd (errF W p v1))) := .loose S'.zh hdn _
      refine q σ Z' _ e' (S'.grow g) _ _ ⟨C, rfl, T.nC, .inr ⟨dn, _, rfl, upd_same, rfl, ?_⟩⟩ fun dd e => ?_
      · exact .cons rv (.cons rv (.cons (.str _) .nil))
      · cases e
        exact S'.freshIn hdn
/-- a def that lets errors out -/
theorem fn_okX {P : Program} {w : World} {K : PySem.W.Frag} {mg : Str → Option Value} {base : Heap} {x qual : Str} {params : Arguments} {body : List Stmt} {scope : Scope} {dvs : List V} {kws : List (Str × V)} {f : Addr} {fd : FuncData}
    {N ps : List Str} {k : Nat} {b : Os} (F : FunD K x qual params body scope dvs kws f fd) (S : FnScope N ps scope) (hpl : ps.length ≤ N.length)
    (hb : ∀ (cdv : Value) (A : Around) (outer : List Env) (s : Shared) (H : Hp) (E : XK), Room k (A.deeper (envOfC qual scope s.heap.objs.size f cdv)) → ∀ G, BD (cxOf (L2N.CX P w) P w K mg base N qual scope f cdv A outer s H E) G (wishW K G.H0 fun cls d _ H => E cls d H) body b) :
    FnOk P w K mg base (L2N.CX P w) (k + 1) f fd ps (spD K ps.length (fnOfX N.length b)) := by
  refine F.ok S (fun vs H Q E h => h.1) (fun cdv A outer s H vs Q E hr h => ⟨fun D σ H => ∃ G, RunS K G (wishW K G.H0 fun cls d _ H => E cls d H) b D σ H, ?_, ?_⟩)
  · exact ⟨fun pins s' σ H' D I ⟨G, w⟩ => (hb cdv A outer s H E hr G).run pins s' σ H' D I w⟩
  · obtain ⟨hl, Z, as, e, R, h⟩ := h
    have hla : as.length = ps.length := by rw [← R.len]; exact hl
    refine ⟨gOf Z H vs as, Z, _, sim_start e R (by omega), ?_⟩
    unfold fnOfX at h
    cases hm : b (as ++ List.replicate (N.length - as.length) Sl.no) with
    | st => rw [hm] at h; exact h.elim
    | bk ρ => rw [hm] at h; exact h.elim
    | ct ρ => rw [hm] at h; exact h.elim
    | nx ρ => rw [hm] at h; exact fun σ Z' H' e' S' => h .non Z' H' (after_of S') .non
    | rt r ρ => rw [hm] at h; exact fun v σ Z' H' e' S' hr' => h v Z' H' (after_of S') (res_of hr')
    | ex y ρ => rw [hm] at h; exact fun σ Z' H' e' S' cls d hx hf => h cls d Z' H' (after_of S') hx hf
theorem takesN_of {X : Cx} {E : XK} (hs : X.stack = X.env :: X.outer) (hf : X.env.frame = some X.env.locals) (hex : X.ex = []) {E₁ : Value → Shared → Prop}
    (hx : X.xe = fun e s' => wpAny (model X.prog X.w) X.A (leaving X.env e) (fun _ s'' => L2N.CX X.prog X.w X.outer X.H_0 X.s_0 E e s'') E₁ s') : L2N.Takes X (fun cls d _ H => E cls d H) := L2N.takes_of hs hf hex hx
/-- a def that may raise, as callers see it -/
structure CalX (P : Program) (w : World) (K : PySem.W.Frag) (mg : Str → Option Value) (base : Heap) (k : Nat) (x : Str) (ps : List Str) (g : Fn) : Prop where
  ex : ∃ f fd, FnOk P w K mg base (L2N.CX P w) k f fd ps (spD K ps.length g) ∧ mg x = some (.ref f) ∧ PySem.W.keepIn K (.ref f) = true ∧ Binds K fd ps []
theorem CalX.of {P : Program} {w : World} {K : PySem.W.Frag} {mg : Str → Option Value} {base : Heap} {k : Nat} {x qual : Str} {params : Arguments} {body : List Stmt} {scope : Scope} {f : Addr} {fd : FuncData} {ps : List Str} {g : Fn}
    (ok : FnOk P w K mg base (L2N.CX P w) k f fd ps (spD K ps.length g)) (hm : mg x = some (.ref f)) (F : FunD K x qual params body scope [] [] f fd)
    (h : ∀ (kV doc pm : Value) (an : Option Addr) (cdv ct : Value) (us : List Value), us.length = ps.length → bindArgs (PySem.W.fnOf x qual params body scope .none kV doc pm an cdv ct) ⟨us, []⟩ = pure (ps.zip us)) : CalX P w K mg base k x ps g :=
  ⟨f, fd, ok, hm, F.kp, F.bindsN h⟩
theorem rd_calX {k kk : Nat} {ps : List Str} {g : Fn} {f : Str} {p pos : Pos} {e : Expr} {es : List Expr} {oas : O (List Va)} (c : CalX X.prog X.w X.K X.mg X.base k f ps g) (hr : Room kk X.A) (hk : k ≤ kk) (hg : Gl X f) (tk : L2N.Takes X W')
    (ha : AD X G (wishW X.K G.H0 W') (e :: es) oas) (hl : Many ps.length oas) (hdb : (f == ("__debug__" : Str)) = false := by decide)
    (he : starEach (e :: es) X.env = (false, eval e X.env) :: starEach es X.env := by rfl) (hpl : (backTo pos (starEach es X.env)).any (·.1) = false := by rfl) : RD X G (wishW X.K G.H0 W') (.Call (.Name f p) (e :: es) [] pos) (oCall g oas) := by
  obtain ⟨fa, fd, F, hm, kp, b⟩ := c.ex
  exact pe_imp (pe_callS (E := fun σ => WE W' σ) F (hr.mono hk) hg hm kp b (fun σ => L2N.passAt tk σ) ha hdb he hpl) fun σ H Q w => run_call (E := WE W' σ) (fun y ρ Z H h cls d hx hf => h cls d hx hf) trivial hl w
/-- a def that raises nothing, called where errors are let out -/
def NoX (g : Fn) : Prop := ∀ as x o, g as ≠ .exc x o
theorem noX_fnOf (n : Nat) (b : Os) : NoX (fnOf n b) := fun as x o h => by
  unfold fnOf at h
  split at h <;> cases h
theorem sp_noX {K : PySem.W.Frag} {n : Nat} {g : Fn} (hx : NoX g) {vs : List V} {H : Hp} {Q : VK} {E E' : XK} (h : spD K n g vs H Q E) : spD K n g vs H Q E' := by
  obtain ⟨h1, Z, as, h2, h3, h4⟩ := h
  refine ⟨h1, Z, as, h2, h3, ?_⟩
  cases e : g as with
  | st => rw [e] at h4; exact h4
  | ret r outs => rw [e] at h4; exact h4
  | exc x outs => exact absurd e (hx as x outs)
theorem rd_calB {B : Wish} {k kk : Nat} {ps : List Str} {g : Fn} {f : Str} {p pos : Pos} {e : Expr} {es : List Expr} {oas : O (List Va)} (hx : NoX g) (c : Cal X.prog X.w X.K X.mg X.base k f ps g) (hr : Room kk X.A) (hk : k ≤ kk) (hg : Gl X f)
    (ha : AD X G B (e :: es) oas) (hl : Many ps.length oas) (hdb : (f == ("__debug__" : Str)) = false := by decide)
    (he : starEach (e :: es) X.env = (false, eval e X.env) :: starEach es X.env := by rfl) (hpl : (backTo pos (starEach es X.env)).any (·.1) = false := by rfl) : RD X G B (.Call (.Name f p) (e :: es) [] pos) (oCall g oas) := by
  obtain ⟨fa, fd, F, hm, kp, b⟩ := c.ex
  refine pe_imp (pe_call F (hr.mono hk) hg hm kp b .nil pass0 ha hdb he hpl) fun σ H Q w => ?_
  obtain ⟨Z, ρ, S, q⟩ := run_call (E := fun _ _ _ => True) (fun _ _ _ _ _ _ _ _ _ => trivial) trivial hl w
  have q2 : Run X.K G B (VasR X.K) oas σ H fun vs H1 => spD X.K ps.length g vs H1 Q E0 := by
    refine ⟨Z, ρ, S, ?_⟩
    cases ho : oas ρ with
    | st => rw [ho] at q; exact q.elim
    | ex y ρ1 => rw [ho] at q; exact q
    | ok vas ρ1 => rw [ho] at q; exact fun v Z' H' e S' r => sp_noX hx (q v Z' H' e S' r)
  unfold tCall
  simp only [List.append_nil]
  exact q2
end
end Ow
/-! Ow42: try: .. except C as e: .. -/
namespace Ow
open PySem PySem.Spec PyProof.Rows L2
/-- the name of the clause goes -/
def strip (i : Nat) : Mo → Mo
  | .nx ρ => match ρ[i]? with | some (.pu _) => .nx (ρ.set i .no) | _ => .st
  | .bk ρ => match ρ[i]? with | some (.pu _) => .bk (ρ.set i .no) | _ => .st
  | .ct ρ => match ρ[i]? with | some (.pu _) => .ct (ρ.set i .no) | _ => .st
  | .rt r ρ => match ρ[i]? with | some (.pu _) => .rt r (ρ.set i .no) | _ => .st
  | _ => .st
open Classical in
noncomputable def sealS (i : Nat) (f : Addr → Mo) : Mo := if h : ∃ m, ∀ a, strip i (f a) = m then h.choose else .st
theorem seal_of {i : Nat} {f : Addr → Mo} {m : Mo} (h : ∀ a, strip i (f a) = m) : sealS i f = m := by
  unfold sealS
  have e : ∃ m, ∀ a, strip i (f a) = m := ⟨m, h⟩
  rw [dif_pos e, ← e.choose_spec 0, h 0]
theorem seal_post {K : PySem.W.Frag} {G : Gm} {B : Wish} {Z : Hp} {i : Nat} {f : Addr → Mo} {D : Ends} (h : PostS K G B Z (sealS i f) D) (a : Addr) : PostS K G B Z (strip i (f a)) D := by
  unfold sealS at h
  split at h
  · rename_i e
    rw [e.choose_spec a]
    exact h
  · exact h.elim
/-- what the suite knows of the error -/
def XnS (K : PySem.W.Frag) (Z0 : Hp) (x : Xn) (cls : Value) (d : Option Addr) : Prop :=
  ∃ C, cls = .ref C ∧ PySem.W.nsIn K mainGlobals x.cls = some (some (.ref C)) ∧ (x.told = [] ∨ ∃ dd fs, d = some dd ∧ Z0 dd = some (.xd fs) ∧ fs.map (·.1) = x.told.map (·.1) ∧ RpAll K Z0 (fs.map (·.2)) (x.told.map (·.2)))
noncomputable def oTry (i : Nat) (cs : List Str) (ob : Os) (S : Addr → Xn → Os) : Os := fun ρ => match ob ρ with
  | .ex x ρ1 => if x.cls ∈ cs ∧ x.told.isEmpty = false then sealS i (fun a => match setSl ρ1 i (.pu (hnd a)) with | some ρ2 => S a x ρ2 | none => .st) else .st
  | m => m
section
variable {K : PySem.W.Frag} {G : Gm} {Z Z' : Hp} {ρ : Rho} {σ : L2.St} {H : Hp} {i : Nat} {d : D}
theorem Sim.dropPu (S : Sim K G Z ρ σ H) (h : ρ[i]? = some (Sl.pu d)) (o : Option V) (σ' : L2.St) (hs : σ' = σ ∨ σ' = σ.set i o) : Sim K G Z (ρ.set i .no) σ' H := by
  have hi : i < ρ.length := (List.getElem?_eq_some_iff.mp h).1
  have g : ∀ (j : Nat) s, (ρ.set i .no)[j]? = some s → s ≠ .no → j ≠ i ∧ ρ[j]? = some s := fun j s e n => by
    by_cases hj : j = i
    · subst hj; rw [List.getElem?_set_self hi] at e; cases e; exact absurd rfl n
    · rw [List.getElem?_set_ne (Ne.symm hj)] at e; exact ⟨hj, e⟩
  have q : ∀ j : Nat, j ≠ i → σ'[j]? = σ[j]? := fun j hj => by
    rcases hs with rfl | rfl
    · rfl
    · rw [List.getElem?_set_ne (Ne.symm hj)]
  have ql : σ'.length = σ.length := by
    rcases hs with rfl | rfl
    · rfl
    · rw [List.length_set]
  refine ⟨S.zz, S.zh, S.fr, S.nw, fun j d e => ?_, fun j p c e => ?_, fun j k p q' c d n e1 e2 => ?_, fun j x hj => ?_, by rw [List.length_set, ql]; exact S.len, S.lx.frame (fun j xss e => ?_) (fun j k m e => ?_) (.refl _) fun b o f z gn w ho => ⟨ho, z, gn, fun j p c e => ?_⟩⟩
  · obtain ⟨h1, h2⟩ := g j _ e (by simp); rw [q j h1]; exact S.pu j d h2
  · obtain ⟨h1, h2⟩ := g j _ e (by simp); rw [q j h1]; exact S.ow j p c h2
  · obtain ⟨h1, h2⟩ := g j _ e1 (by simp)
    obtain ⟨h3, h4⟩ := g k _ e2 (by simp)
    rw [q j h1, q k h3]
    exact S.ne j k p q' c d n h2 h4
  · obtain ⟨q1, c', hc'⟩ := S.pin j x hj
    have hj' : j ≠ i := fun e => by subst e; rw [h] at hc'; cases hc'
    refine ⟨by rw [q j hj']; exact q1, c', ?_⟩
    rw [List.getElem?_set_ne (Ne.symm hj')]
    exact hc'
  · obtain ⟨h1, h2⟩ := g j _ e (by simp); exact ⟨h2, q j h1⟩
  · obtain ⟨h1, h2⟩ := g j _ e (by simp); exact ⟨h2, q j h1⟩
  · obtain ⟨h1, h2⟩ := g j _ e (by simp); rw [q j h1]; exact w j p c h2
/-- the ground with the still data that stand at a later point -/
def Gm.at (G : Gm) (Z : Hp) : Gm := { G with Z0 := Z }
theorem lx_at {ρ : Rho} (L : LX K G Z ρ σ H) {G' : Gm} (h : G'.H0 = G.H0) : LX K G' Z ρ σ H := by
  refine ⟨fun i n e => ?_, L.one, L.al⟩
  obtain ⟨v, fs, A⟩ := L.ll i n e
  exact ⟨v, fs, A.s, A.r, A.nd, A.z, fun b hb => by rw [h]; exact A.g b hb, A.w⟩
theorem Sim.toAt (S : Sim K G Z ρ σ H) : Sim K (G.at Z) Z ρ σ H :=
  ⟨.refl _, S.zh, S.fr, fun a o e => .inl e, S.pu, S.ow, S.ne, S.pin, S.len, lx_at S.lx rfl⟩
theorem Sim.ofAt (S : Sim K (G.at Z) Z' ρ σ H) (e : Same G.Z0 Z) (n : ∀ a o, Z a = some o → G.Z0 a = some o ∨ G.H0 a = none) : Sim K G Z' ρ σ H :=
  ⟨e.trans S.zz, S.zh, S.fr, fun a o h => (S.nw a o h).elim (fun q => n a o q) .inr, S.pu, S.ow, S.ne, S.pin, S.len, lx_at S.lx rfl⟩
theorem Sim.newA_of {ρ : Rho} {i : Nat} {d : D} {a : Addr} (_S : Sim K G Z (ρ.set i .no) σ H) (h : NewA ρ σ H a) (h3 : ρ[i]? = some (Sl.pu d)) : NewA (ρ.set i .no) σ H a := by
  have hi : i < ρ.length := (List.getElem?_eq_some_iff.mp h3).1
  have g : ∀ (j : Nat) s, (ρ.set i .no)[j]? = some s → s ≠ .no → ρ[j]? = some s := fun j s e n => by
    by_cases hj : j = i
    · subst hj; rw [List.getElem?_set_self hi] at e; cases e; exact absurd rfl n
    · rw [List.getElem?_set_ne (Ne.symm hj)] at e; exact e
  exact ⟨fun j p c e => h.1 j p c (g j _ e (by simp)), fun ⟨j, n, v, fs, e1, e2⟩ => h.2 ⟨j, n, v, fs, g j _ e1 (by simp), e2⟩⟩
theorem NR.noXd {P : List V → List D → Prop} {H : Hp} {v : V} {n : Nt} {fs : List Addr} (h : NR P H v n fs) {b : Addr} (hb : b ∈ fs) (l : List (Str × V)) : H b ≠ some (.xd l) := by
  cases h with
  | li h1 h2 =>
    rcases List.mem_cons.mp hb with rfl | hb
    · rw [h1]; intro q; cases q
    · obtain ⟨_, vs, q, _⟩ := paired_ex h2 hb; rw [q]; intro z; cases z
  | dd h1 h2 =>
    rcases List.mem_cons.mp hb with rfl | hb
    · rw [h1]; intro q; cases q
    · obtain ⟨t, ht, hb⟩ := List.mem_flatMap.mp hb
      obtain ⟨m, q1, q2, q3⟩ := paired_ex h2 ht
      rcases List.mem_cons.mp hb with rfl | hb
      · rw [q2]; intro z; cases z
      · obtain ⟨q, hq, rfl⟩ := List.mem_map.mp hb
        obtain ⟨x, _, vs, r, _⟩ := paired_ex q3 hq
        rw [r]; intro z; cases z
theorem Sim.addXd (S : Sim K G Z ρ σ H) {dd : Addr} {l : List (Str × V)} (hd : H dd = some (.xd l)) (h0 : G.H0 dd = none) : Sim K G (upd Z dd (.xd l)) ρ σ H := by
  have e : Same Z (upd Z dd (.xd l)) := fun b o q => by
    by_cases hb : b = dd
    · subst hb
      have := S.zh _ _ q
      rw [hd] at this
      cases this
      exact upd_same
    · rw [upd_ne hb]; exact q
  refine ⟨S.zz.trans e, fun b o q => ?_, S.fr, fun b o q => ?_, fun i d q => ?_, fun i p c q => ?_, S.ne, S.pin, S.len, S.lx.frame (fun _ _ q => ⟨q, rfl⟩) (fun _ _ _ q => ⟨q, rfl⟩) e fun b o f z gn w ho => ⟨ho, ?_, gn, w⟩⟩
  · by_cases hb : b = dd
    · subst hb; rw [upd_same] at q; cases q; exact hd
    · rw [upd_ne hb] at q; exact S.zh _ _ q
  · by_cases hb : b = dd
    · subst hb; exact .inr h0
    · rw [upd_ne hb] at q; exact S.nw b o q
  · obtain ⟨v, h1, h2⟩ := S.pu i d q; exact ⟨v, h1, h2.mono e⟩
  · obtain ⟨a, o, h1, h2, h3, h4, h5⟩ := S.ow i p c q
    refine ⟨a, o, h1, h2, h3.mono e, ?_, h5⟩
    have ha : a ≠ dd := fun z => by
      subst z
      rw [hd] at h2
      cases h2
      cases c <;> exact h3.elim
    rw [upd_ne ha]; exact h4
  · obtain ⟨i, n, v, fs, e1, e2, e3, e4⟩ := f
    have hb : b ≠ dd := fun z => by subst z; exact e3.noXd e4 l hd
    rw [upd_ne hb]; exact z
end
section
variable {X : Cx} {G : Gm} {B : Wish} {x n : Str} {i : Nat} {body suite : List Stmt} {b₀ : Stmt} {np pos pos' : Pos} {c : Value} {ob : Os} {S : Addr → Xn → Os} {cs : List Str}
theorem sd_try (hs : X.stack = X.env :: X.outer) (hf : X.env.frame = some X.env.locals) (hN : X.N.Nodup) (hi : X.N[i]? = some n) (hln : X.env.kindOf n = some .local) (hc : Names X x c)
    (hcs : ∀ y ∈ cs, ∀ C, PySem.W.nsIn X.K mainGlobals y = some (some (.ref C)) → PySem.W.exmOne X.K (.ref C) c = some true)
    (hb : ∀ (W : WX) (pn : List (Addr × Obj)) (xe : Value → Shared → Prop), L2N.Takes (X.tr pn xe) W → PassesOwn (model X.prog X.w) X.A X.env xe → BD (X.tr pn xe) G (wishW X.K G.H0 W) body ob)
    (hsu : ∀ (G' : Gm) (a : Addr) (oe : Obj) (cls : Value) (d : Option Addr) (pn : List (Addr × Obj)) (y : Xn), y.cls ∈ cs → y.told ≠ [] → XnS X.K G'.Z0 y cls d → L2N.Zn cls d oe → (∃ vs, oe.data = .fields vs) → BD (X.suite a ((a, oe) :: pn)) G' noB (b₀ :: suite) (S a y)) :
    SD X G B (.Try body [.ExceptHandler (some (.Name x np)) (some n) (b₀ :: suite) pos'] [] [] pos) (oTry i cs ob S) := by
  refine ps_imp (L2N.ps_try_as (tb := fun W => RunS X.K G (wishW X.K G.H0 W) ob) (ts := fun a cls d D σ H => ∃ (G' : Gm) (y : Xn), y.cls ∈ cs ∧ y.told ≠ [] ∧ XnS X.K G'.Z0 y cls d ∧ RunS X.K G' noB (S a y) D σ H) (Wout := fun _ _ _ _ => False) hs hf hN hi hln hc (fun u s' ⟨_, _, _, _, _, _, _, _, _, _, _, _, _, _, _, _, w⟩ => w.elim) hb fun a oe cls d pn hz hv => ⟨fun pins s σ H D I ⟨G', y, h1, h0, h2, w⟩ => (hsu G' a oe cls d pn y h1 h0 h2 hz hv).run pins s σ H D I w⟩) ?_
  rintro D σ H ⟨Z, ρ, Sm, p⟩
  refine ⟨Z, ρ, Sm, ?_⟩
  unfold oTry at p
  cases ho : ob ρ with
  | st => rw [ho] at p; exact p
  | nx ρ1 => rw [ho] at p; exact p
  | bk ρ1 => rw [ho] at p; exact p
  | ct ρ1 => rw [ho] at p; exact p
  | rt r ρ1 => rw [ho] at p; exact p
  | ex y ρ1 =>
    rw [ho] at p
    dsimp only at p
    split at p
    · rename_i hy0
      obtain ⟨hy, hy1⟩ := hy0
      have hne : y.told ≠ [] := fun z => by rw [z] at hy1; cases hy1
      intro σ1 Z1 H1 e1 S1 cls d hx hfr
      obtain ⟨C, ec, hC, ht⟩ := hx
      subst ec
      refine ⟨true, hcs _ hy C hC, fun _ a ha => ?_, fun q => by cases q⟩
      have p1 := seal_post p a
      -- the still data with the error's dict
      obtain ⟨Z2, e2, S2, hxs⟩ : ∃ Z2, Same Z1 Z2 ∧ Sim X.K G Z2 ρ1 σ1 H1 ∧ XnS X.K Z2 y (.ref C) d := by
        rcases ht with h0 | ⟨dd, fs, ed, hd, hn, hr⟩
        · exact ⟨Z1, .refl _, S1, C, rfl, hC, .inl h0⟩
        · have S2 := S1.addXd hd (hfr _ ed)
          have e2 : Same Z1 (upd Z1 dd (.xd fs)) := fun b o q => by
            by_cases hb : b = dd
            · subst hb
              have := S1.zh _ _ q
              rw [hd] at this
              cases this
              exact upd_same
            · rw [upd_ne hb]; exact q
          exact ⟨_, e2, S2, C, rfl, hC, .inr ⟨dd, fs, ed, upd_same, hn, RpAll.mono hr e2⟩⟩
      cases hset : setSl ρ1 i (.pu (hnd a)) with
      | none =>
        rw [hset] at p1
        exact p1.elim
      | some ρ2 =>
        rw [hset] at p1
        have S3 : Sim X.K G Z2 ρ2 (σ1.set i (some (.ref a))) H1 := S2.put hset .exn
        refine ⟨G.at Z2, y, hy, hne, hxs, Z2, ρ2, S3.toAt, ?_⟩
        have e12 := e1.trans e2
        dsimp only at p1
        cases hm : S a y ρ2 with
        | st => rw [hm] at p1; exact p1.elim
        | ex y' ρ3 => rw [hm] at p1; exact p1.elim
        | nx ρ3 =>
          rw [hm] at p1
          unfold strip at p1
          dsimp only at p1
          split at p1
          · rename_i d3 h3
            intro σ4 Z4 H4 e4 S4
            exact p1 _ Z4 H4 (e12.trans e4) ((S4.ofAt S2.zz S2.nw).dropPu h3 none _ (.inr rfl))
          · exact p1.elim
        | bk ρ3 =>
          rw [hm] at p1
          unfold strip at p1
          dsimp only at p1
          split at p1
          · rename_i d3 h3
            intro σ4 Z4 H4 e4 S4
            exact p1 _ Z4 H4 (e12.trans e4) ((S4.ofAt S2.zz S2.nw).dropPu h3 none _ (.inr rfl))
          · exact p1.elim
        | ct ρ3 =>
          rw [hm] at p1
          unfold strip at p1
          dsimp only at p1
          split at p1
          · rename_i d3 h3
            intro σ4 Z4 H4 e4 S4
            exact p1 _ Z4 H4 (e12.trans e4) ((S4.ofAt S2.zz S2.nw).dropPu h3 none _ (.inr rfl))
          · exact p1.elim
        | rt r ρ3 =>
          rw [hm] at p1
          unfold strip at p1
          dsimp only at p1
          split at p1
          · rename_i d3 h3
            intro v σ4 Z4 H4 e4 S4 hr4
            have S5 := (S4.ofAt S2.zz S2.nw).dropPu h3 none σ4 (.inl rfl)
            refine p1 v σ4 Z4 H4 (e12.trans e4) S5 ?_
            cases r with
            | pu d => exact hr4
            | nw c =>
              obtain ⟨a4, o4, q1, q2, q3, q4, q5, q6⟩ := hr4
              exact ⟨a4, o4, q1, q2, q3, q4, q5, S5.newA_of q6 h3⟩
          · exact p1.elim
    · exact p.elim
end
end Ow
/-! Ow43: in an except suite: e.f, isinstance(e, C) -/
namespace Ow
open PySem PySem.Spec PyProof.Rows L2
def isHnd (a : Addr) : D → Bool
  | .dict [(.bool true, .int z)] => decide (z = (a : Int))
  | _ => false
@[simp] theorem isHnd_self (a : Addr) : isHnd a (hnd a) = true := by simp [isHnd]
theorem isHnd_eq {a : Addr} {d : D} (h : isHnd a d = true) : d = hnd a := by
  unfold isHnd at h
  split at h
  · rw [of_decide_eq_true h]
  · cases h
theorem rp_hnd {K : PySem.W.Frag} {Z : Hp} {v : V} {a : Addr} (h : Rp K Z v (hnd a)) : v = .ref a := by
  generalize e : hnd a = d at h
  cases h with
  | exn =>
    unfold hnd at e
    simp only [PyData.dict.injEq, List.cons.injEq, Prod.mk.injEq, PyData.int.injEq, and_true, true_and] at e
    rw [Int.ofNat_inj.mp e]
  | _ => cases e
/-- what an error's class must say, so that its errors are asked in a suite -/
structure SuC (K : PySem.W.Frag) (C : Addr) (fs : List Str) : Prop where
  xf : XfC K C
  cl : (PySem.W.clsIn K C).isSome = true
  ha : PySem.W.findIn K (.ref C) "__class__" = some (some (.builtin "object.__class__"))
  hn : PySem.W.specialIn K (.builtin "object.__class__") "__get__" = some (some (.builtin "getset_descriptor.__get__"))
  ht : PySem.W.takesIn K (.builtin "object.__class__") = some true
  hm : PySem.W.mroIn K C (.type "object") = some true
  no : ∀ f ∈ fs, PySem.W.findIn K (.ref C) f = some none
def sucB (K : PySem.W.Frag) (C : Addr) (fs : List Str) : Bool :=
  xfB K C && ((PySem.W.clsIn K C).isSome && (decide (PySem.W.findIn K (.ref C) "__class__" = some (some (.builtin "object.__class__"))) && (decide (PySem.W.specialIn K (.builtin "object.__class__") "__get__" = some (some (.builtin "getset_descriptor.__get__"))) &&
    (decide (PySem.W.takesIn K (.builtin "object.__class__") = some true) && (decide (PySem.W.mroIn K C (.type "object") = some true) && fs.all fun f => decide (PySem.W.findIn K (.ref C) f = some none))))))
theorem sucB_ok {K : PySem.W.Frag} {C : Addr} {fs : List Str} (h : sucB K C fs = true) : SuC K C fs := by
  obtain ⟨h1, h⟩ := He.ba h
  obtain ⟨h2, h⟩ := He.ba h
  obtain ⟨h3, h⟩ := He.ba h
  obtain ⟨h4, h⟩ := He.ba h
  obtain ⟨h5, h⟩ := He.ba h
  obtain ⟨h6, h7⟩ := He.ba h
  exact ⟨xfB_ok h1, h2, of_decide_eq_true h3, of_decide_eq_true h4, of_decide_eq_true h5, of_decide_eq_true h6, fun f hf => of_decide_eq_true (List.all_eq_true.mp h7 f hf)⟩
abbrev Kit := List (Str × List Str)
def kitT (kit : Kit) (c T : Str) : Option Bool := (kit.lookup c).map fun l => l.contains T
/-- the errors' classes kit, with what each is one of; fs: fields that suites read; ts: own classes, bs: built-in ones that isinstance names; es: classes that clauses name -/
structure SuF (K : PySem.W.Frag) (kit : Kit) (fs ts : List Str) (bs : List String) (es : List Str) : Prop where
  su : ∀ c l, kit.lookup c = some l → ∀ C, PySem.W.nsIn K mainGlobals c = some (some (.ref C)) → SuC K C fs
  ts : ∀ c l, kit.lookup c = some l → ∀ C, PySem.W.nsIn K mainGlobals c = some (some (.ref C)) → ∀ T ∈ ts, ∀ D, PySem.W.nsIn K mainGlobals T = some (some (.ref D)) → PySem.W.kitOne K (.ref C) (.ref D) = some (l.contains T)
  bs : ∀ c l, kit.lookup c = some l → ∀ C, PySem.W.nsIn K mainGlobals c = some (some (.ref C)) → ∀ T ∈ bs, PySem.W.kitOne K (.ref C) (.type T) = some (l.contains (PySem.Str.ofString T))
  es : ∀ c l, kit.lookup c = some l → ∀ C, PySem.W.nsIn K mainGlobals c = some (some (.ref C)) → ∀ T ∈ es, ∀ D, PySem.W.nsIn K mainGlobals T = some (some (.ref D)) → PySem.W.exmOne K (.ref C) (.ref D) = some true
def sufB1 (K : PySem.W.Frag) (fs ts : List Str) (bs : List String) (es : List Str) (p : Str × List Str) : Bool := match PySem.W.nsIn K mainGlobals p.1 with
  | some (some (.ref C)) => sucB K C fs && ((ts.all fun T => match PySem.W.nsIn K mainGlobals T with | some (some (.ref D)) => decide (PySem.W.kitOne K (.ref C) (.ref D) = some (p.2.contains T)) | _ => true) &&
      ((bs.all fun T => decide (PySem.W.kitOne K (.ref C) (.type T) = some (p.2.contains (PySem.Str.ofString T)))) && (es.all fun T => match PySem.W.nsIn K mainGlobals T with | some (some (.ref D)) => decide (PySem.W.exmOne K (.ref C) (.ref D) = some true) | _ => true)))
  | _ => true
def sufB (K : PySem.W.Frag) (kit : Kit) (fs ts : List Str) (bs : List String) (es : List Str) : Bool := kit.all (sufB1 K fs ts bs es)
theorem lookup_memS {c : Str} {l : List Str} : ∀ {kit : Kit}, kit.lookup c = some l → (c, l) ∈ kit
  | [], h => by cases h
  | (b, u) :: r, h => by
    have h2 : (match c == b with | true => some u | false => r.lookup c) = some l := h
    cases q : (c == b) with
    | true =>
      rw [q] at h2
      have e : u = l := Option.some.inj h2
      rw [eq_of_beq q, e]
      exact List.mem_cons_self
    | false =>
      rw [q] at h2
      exact List.mem_cons_of_mem _ (lookup_memS h2)
theorem sufB_ok {K : PySem.W.Frag} {kit : Kit} {fs ts : List Str} {bs : List String} {es : List Str} (h : sufB K kit fs ts bs es = true) : SuF K kit fs ts bs es := by
  have key : ∀ c l, kit.lookup c = some l → ∀ C, PySem.W.nsIn K mainGlobals c = some (some (.ref C)) → (sucB K C fs && ((ts.all fun T => match PySem.W.nsIn K mainGlobals T with | some (some (.ref D)) => decide (PySem.W.kitOne K (.ref C) (.ref D) = some (l.contains T)) | _ => true) &&
      ((bs.all fun T => decide (PySem.W.kitOne K (.ref C) (.type T) = some (l.contains (PySem.Str.ofString T)))) && (es.all fun T => match PySem.W.nsIn K mainGlobals T with | some (some (.ref D)) => decide (PySem.W.exmOne K (.ref C) (.ref D) = some true) | _ => true)))) = true := fun c l hl C hC => by
    have h1 := List.all_eq_true.mp h _ (lookup_memS hl)
    unfold sufB1 at h1
    dsimp only at h1
    rw [hC] at h1
    exact h1
  refine ⟨fun c l hl C hC => ?_, fun c l hl C hC T hT D hD => ?_, fun c l hl C hC T hT => ?_, fun c l hl C hC T hT D hD => ?_⟩
  · exact sucB_ok (He.ba (key c l hl C hC)).1
  · have h2 := List.all_eq_true.mp (He.ba (He.ba (key c l hl C hC)).2).1 T hT
    rw [hD] at h2
    exact of_decide_eq_true h2
  · exact of_decide_eq_true (List.all_eq_true.mp (He.ba (He.ba (He.ba (key c l hl C hC)).2).2).1 T hT)
  · have h2 := List.all_eq_true.mp (He.ba (He.ba (He.ba (key c l hl C hC)).2).2).2 T hT
    rw [hD] at h2
    exact of_decide_eq_true h2
/-- e.f -/
def oXat (o : O D) (a : Addr) (y : Xn) (f : Str) : O D := fun ρ => (o ρ).bind fun d ρ1 => if isHnd a d = true then (match y.told.lookup f with | some v => .ok v ρ1 | none => .st) else .st
/-- isinstance(e, T) -/
def oXis (o : O D) (a : Addr) (kit : Kit) (y : Xn) (T : Str) : O D := fun ρ => (o ρ).bind fun d ρ1 => if isHnd a d = true then (match kitT kit y.cls T with | some b => .ok (.bool b) ρ1 | none => .st) else .st
theorem lookup_rp {K : PySem.W.Frag} {Z : Hp} {f : Str} {d : D} : ∀ {fs : List (Str × V)} {ts : List (Str × D)}, fs.map (·.1) = ts.map (·.1) → RpAll K Z (fs.map (·.2)) (ts.map (·.2)) → ts.lookup f = some d → ∃ v, fs.lookup f = some v ∧ Rp K Z v d
  | [], [], _, _, h => by cases h
  | [], _ :: _, e, _, _ => by cases e
  | _ :: _, [], e, _, _ => by cases e
  | (x, v) :: fs, (y, u) :: ts, e, r, h => by
    rw [List.map_cons, List.map_cons] at e r
    obtain ⟨e1, e2⟩ := List.cons.inj e
    have e1 : x = y := e1
    subst e1
    cases r with
    | cons r1 r2 =>
      have h2 : (match f == x with | true => some u | false => ts.lookup f) = some d := h
      show ∃ w, (match f == x with | true => some v | false => fs.lookup f) = some w ∧ _
      cases q : (f == x) with
      | true => rw [q] at h2; cases h2; exact ⟨v, rfl, r1⟩
      | false => rw [q] at h2; exact lookup_rp e2 r2 h2
section
variable {X : Cx} {G : Gm} {B : Wish} {a : Addr} {oe : Obj} {cls : Value} {d : Option Addr} {pn : List (Addr × Obj)} {y : Xn} {kit : Kit} {fs ts : List Str} {bs : List String} {es : List Str} {e : Expr} {o : O D} {pos p p2 : Pos}
theorem pd_xat {f : Str} (F : SuF X.K kit fs ts bs es) (hy : y.cls ∈ kit.map (·.1)) (hx : XnS X.K G.Z0 y cls d) (hz : Zc cls d oe) (hv : ∃ vs, oe.data = .fields vs) (hf : f ∈ fs) (he : PD (X.suite a ((a, oe) :: pn)) G B e o)
    (hb : attributeBase e f X.env (eval e X.env) = eval e X.env := by rfl) : PD (X.suite a ((a, oe) :: pn)) G B (.Attribute e f pos) (oXat o a y f) := by
  obtain ⟨l, hl⟩ : ∃ l, kit.lookup y.cls = some l := by
    obtain ⟨q, hq, e⟩ := List.mem_map.mp hy
    cases hl : kit.lookup y.cls with
    | some l => exact ⟨l, rfl⟩
    | none =>
      have := List.lookup_eq_none_iff.mp hl q hq
      rw [e] at this
      simp at this
  obtain ⟨C, ec, hC, ht⟩ := hx
  have SC := F.su _ l hl C hC
  refine pe_imp (pe_xf SC.xf (SC.no f hf) hz hv he hb) fun σ H Q w => run_imp w fun v dv ρ1 Z1 H1 S1 r p1 => ?_
  dsimp only at p1
  split at p1
  · rename_i hh
    have r : Rp X.K Z1 v dv := r
    rw [isHnd_eq hh] at r
    obtain rfl := rp_hnd r
    split at p1
    · rename_i dd hd
      rcases ht with h0 | ⟨da, fl, ed, hZ, hn, hr⟩
      · rw [h0] at hd; cases hd
      · obtain ⟨v, hv1, hv2⟩ := lookup_rp hn hr hd
        exact ⟨rfl, ec, da, fl, v, ed, S1.zh _ _ (S1.zz _ _ hZ), hv1, p1 v Z1 H1 (.refl _) S1 (hv2.mono S1.zz)⟩
    · exact p1.elim
  · exact p1.elim
def rIsX (K : PySem.W.Frag) (C a : Addr) : List V → Hp → VK → Prop := fun xs H Q => ∃ (c : V) (cv : Value) (b : Bool), xs = [.ref a, c] ∧ (∀ u, RelV c u → u = cv) ∧ PySem.W.kitOne K (.ref C) cv = some b ∧ Q (.bl b) H
theorem call_isX {C : Addr} (SC : SuC X.K C fs) (ec : cls = .ref C) (hd : ∀ dd, d = some dd → ∃ l, G.Z0 dd = some (.xd l)) (hz : Zc cls d oe) (hf : ∃ vs, oe.data = .fields vs) :
    CallR (X.suite a ((a, oe) :: pn)) (.builtin "isinstance") (fun xs H Q => Same G.Z0 H ∧ rIsX X.K C a xs H Q) := by
  intro pins s σ H xs us Q I r h
  obtain ⟨hS, c, cv, b, rfl, hcv, e, q⟩ := h
  cases r with
  | cons rx rr =>
    cases rr with
    | cons rt rr =>
      cases rr
      cases rx
      have ecv := hcv _ rt
      subst ecv
      obtain ⟨hget, _⟩ := I.pin (a, oe) (List.mem_append.mpr (.inl List.mem_cons_self))
      obtain ⟨vs, hv⟩ := hf
      have nc : PySem.W.notCls oe = true := by unfold PySem.W.notCls; rw [hv] <;> rfl
      obtain ⟨od, J⟩ : ∃ od, PySem.W.InstAt s.heap a oe C od := by
        cases d with
        | none => exact ⟨none, hget, by rw [hz.1, ec], nc, by rw [hz.2]; trivial⟩
        | some dd =>
          obtain ⟨l, hl⟩ := hd dd rfl
          have hx : ObjOk X.prog X.w H s.heap dd (.xd l) := I.hok dd _ (hS _ _ hl)
          obtain ⟨mA, hns, hr⟩ := hx
          obtain ⟨od, ho, hl⟩ := lookIn_ns hns
          exact ⟨some od, hget, by rw [hz.1, ec], nc, by rw [hz.2]; exact ho⟩
      exact PySem.W.kia_one (PySem.W.kitx_exc SC.cl SC.xf.ga SC.xf.gg SC.xf.exC SC.ha SC.hn SC.ht SC.hm) I.kIn J e (fun z => nomatch z) fun tk => ⟨.bl b, H, I.kept (t' := tk) fun _ _ z => z, rfl, q⟩
theorem kit_has (hy : y.cls ∈ kit.map (·.1)) : ∃ l, kit.lookup y.cls = some l := by
  obtain ⟨q, hq, e⟩ := List.mem_map.mp hy
  cases hl : kit.lookup y.cls with
  | some l => exact ⟨l, rfl⟩
  | none =>
    have := List.lookup_eq_none_iff.mp hl q hq
    rw [e] at this
    simp at this
theorem xn_dict {Z0 : Hp} (h : ∃ C, cls = .ref C ∧ PySem.W.nsIn X.K mainGlobals y.cls = some (some (.ref C)) ∧ ∃ dd fs, d = some dd ∧ Z0 dd = some (.xd fs)) : ∀ dd, d = some dd → ∃ l, Z0 dd = some (.xd l) := fun dd e => by
  obtain ⟨_, _, _, dd', fs, e', h'⟩ := h
  rw [e] at e'
  cases e'
  exact ⟨fs, h'⟩
theorem pd_isO {T : Str} {D : Addr} (F : SuF X.K kit fs ts bs es) (hy : y.cls ∈ kit.map (·.1)) (ht : y.told ≠ []) (hx : XnS X.K G.Z0 y cls d) (hz : Zc cls d oe) (hv : ∃ vs, oe.data = .fields vs) (hT : T ∈ ts) (hg : Gl X "isinstance") (hm : X.mg "isinstance" = none)
    (he : PD (X.suite a ((a, oe) :: pn)) G B e o) (hgT : Gl X T) (hmT : X.mg T = some (.ref D)) (hnT : PySem.W.nsIn X.K mainGlobals T = some (some (.ref D))) (hdT : (T == ("__debug__" : Str)) = false := by decide)
    (hs : starEach [e, .Name T p2] X.env = (false, eval e X.env) :: starEach [.Name T p2] X.env := by rfl) (hs2 : starEach [.Name T p2] X.env = (false, eval (.Name T p2) X.env) :: starEach [] X.env := by rfl)
    (hpl : (backTo pos (starEach [.Name T p2] X.env)).any (·.1) = false := by rfl) (hv0 : bootBuiltins "isinstance" = some (.builtin "isinstance") := by rfl) : PD (X.suite a ((a, oe) :: pn)) G B (.Call (.Name "isinstance" p) [e, .Name T p2] [] pos) (oXis o a kit y T) := by
  obtain ⟨l, hl⟩ := kit_has hy
  obtain ⟨C, ec, hC, hd⟩ := hx
  have SC := F.su _ l hl C hC
  have hdd : ∀ dd, d = some dd → ∃ l, G.Z0 dd = some (.xd l) := fun dd e => by
    rcases hd with h0 | ⟨da, fl, ed, hZ, _⟩
    · exact absurd h0 ht
    · rw [e] at ed; cases ed; exact ⟨fl, hZ⟩
  have hk := F.ts _ l hl C hC T hT D hnT
  refine pe_imp (pe_callB (call_isX (G := G) (pn := pn) SC ec hdd hz hv) hg hm hv0 (pa_cons he (pa_cons (pe_glob (X := X.suite a ((a, oe) :: pn)) (v := .ref D) hgT hmT rfl hdT) pa_nil hs2) hs) (by decide) (by decide) hs hpl) fun σ H Q w => run_imp w fun v dv ρ1 Z1 H1 S1 r p1 => ?_
  dsimp only at p1
  split at p1
  · rename_i hh
    have r : Rp X.K Z1 v dv := r
    rw [isHnd_eq hh] at r
    obtain rfl := rp_hnd r
    unfold kitT at p1
    rw [hl] at p1
    exact ⟨S1.zz.trans S1.zh, _, .ref D, _, rfl, fun u ru => ru, hk, p1 _ Z1 H1 (.refl _) S1 (.bl _)⟩
  · exact p1.elim
theorem pd_isB {T : String} {x : Str} (F : SuF X.K kit fs ts bs es) (hy : y.cls ∈ kit.map (·.1)) (ht : y.told ≠ []) (hx : XnS X.K G.Z0 y cls d) (hz : Zc cls d oe) (hv : ∃ vs, oe.data = .fields vs) (hT : T ∈ bs) (hg : Gl X "isinstance") (hm : X.mg "isinstance" = none)
    (he : PD (X.suite a ((a, oe) :: pn)) G B e o) (hgT : Gl X x) (hmT : X.mg x = none) (hvT : bootBuiltins x = some (.type T)) (hnT : x ≠ "__name__" := by decide) (hdT : (x == ("__debug__" : Str)) = false := by decide)
    (hs : starEach [e, .Name x p2] X.env = (false, eval e X.env) :: starEach [.Name x p2] X.env := by rfl) (hs2 : starEach [.Name x p2] X.env = (false, eval (.Name x p2) X.env) :: starEach [] X.env := by rfl)
    (hpl : (backTo pos (starEach [.Name x p2] X.env)).any (·.1) = false := by rfl) (hv0 : bootBuiltins "isinstance" = some (.builtin "isinstance") := by rfl) : PD (X.suite a ((a, oe) :: pn)) G B (.Call (.Name "isinstance" p) [e, .Name x p2] [] pos) (oXis o a kit y (PySem.Str.ofString T)) := by
  obtain ⟨l, hl⟩ := kit_has hy
  obtain ⟨C, ec, hC, hd⟩ := hx
  have SC := F.su _ l hl C hC
  have hdd : ∀ dd, d = some dd → ∃ l, G.Z0 dd = some (.xd l) := fun dd e => by
    rcases hd with h0 | ⟨da, fl, ed, hZ, _⟩
    · exact absurd h0 ht
    · rw [e] at ed; cases ed; exact ⟨fl, hZ⟩
  have hk := F.bs _ l hl C hC T hT
  refine pe_imp (pe_callB (call_isX (G := G) (pn := pn) SC ec hdd hz hv) hg hm hv0 (pa_cons he (pa_cons (pe_bltn (X := X.suite a ((a, oe) :: pn)) (v := .ty T) hgT hmT hvT rfl hnT hdT) pa_nil hs2) hs) (by decide) (by decide) hs hpl) fun σ H Q w => run_imp w fun v dv ρ1 Z1 H1 S1 r p1 => ?_
  dsimp only at p1
  split at p1
  · rename_i hh
    have r : Rp X.K Z1 v dv := r
    rw [isHnd_eq hh] at r
    obtain rfl := rp_hnd r
    unfold kitT at p1
    rw [hl] at p1
    exact ⟨S1.zz.trans S1.zh, _, .type T, _, rfl, fun u ru => ru, hk, p1 _ Z1 H1 (.refl _) S1 (.bl _)⟩
  · exact p1.elim
end
end Ow
/-! Ow44: the head with own errors -/
namespace Ow
open PySem PySem.Spec PyProof.Rows L2 He
/-- one __init__ with super(): its class, its qualified name, parameters, body, scope -/
structure IniD where
  cls : Str
  qual : Str
  params : Arguments
  body : List Stmt
  scope : Scope
abbrev FnY : Type := Option (Str × Str × Arguments × FuncBody × Scope × Addr × List Str × Addr)
def iAd (K : PySem.W.Frag) (c : Str) : Addr := ma K (ga K c) "__init__"
def fnY (K : PySem.W.Frag) (c : Str) : FnY := match K.lookup (iAd K c) with
  | some ⟨_, _, .func fd, _⟩ => some (fd.name, fd.qualname, fd.params, fd.body, fd.scope, fd.globals, fd.closure.map (·.1), fd.builtins)
  | _ => none
def IniD.val (d : IniD) : FnY := some ("__init__", d.qual, d.params, .stmts d.body, d.scope, mainGlobals, ["__class__"], builtinsNs)
def fileB (P : Program) (K : PySem.W.Frag) (c : Addr) : Bool := match K.lookup c with
  | some ⟨_, _, .fields vs, _⟩ => (match (vs[2]? : Option Value) with | some (Value.str file _) => ((P.main.file : Str) == file) | _ => false)
  | _ => false
def cellB (K : PySem.W.Frag) (c D : Addr) : Bool := match K.lookup c with
  | some ⟨_, _, .cell (some (.ref E)), _⟩ => decide (E = D)
  | _ => false
def isNone : Value → Bool
  | .none => true
  | _ => false
theorem isNone_eq {v : Value} (h : isNone v = true) : v = .none := by cases v <;> first | rfl | cases h
def codeB (P : Program) (K : PySem.W.Frag) (q : Str) : Value → Bool
  | .ref c => PySem.W.codeIn K (.ref c) q && fileB P K c
  | _ => false
def closB (K : PySem.W.Frag) (D : Addr) : List (Str × Addr) → Bool
  | [(_, cc)] => cellB K cc D
  | _ => false
theorem codeB_ok {P : Program} {K : PySem.W.Frag} {q : Str} {v : Value} (h : codeB P K q v = true) : ∃ (c : Addr) (ccl : Value) (cdd : Option Addr) (ccs : Array (Option Value)) (vs : Array Value) (file : Str) (tf : Tok),
    v = .ref c ∧ PySem.W.codeIn K (.ref c) q = true ∧ K.lookup c = some ⟨ccl, cdd, .fields vs, ccs⟩ ∧ vs[2]? = some (.str file tf) ∧ ((P.main.file : Str) == file) = true := by
  cases v with
  | ref c =>
    obtain ⟨b7, b8⟩ := ba (show (PySem.W.codeIn K (.ref c) q && fileB P K c) = true from h)
    unfold fileB at b8
    split at b8
    · rename_i ccl cdd vs ccs hcode
      split at b8
      · rename_i file tf hvs
        exact ⟨c, ccl, cdd, ccs, vs, file, tf, rfl, b7, hcode, hvs, b8⟩
      · cases b8
    · cases b8
  | _ => cases h
theorem closB_ok {K : PySem.W.Frag} {D : Addr} {l : List (Str × Addr)} (h : closB K D l = true) (e : l.map (·.1) = [("__class__" : Str)]) : ∃ (cc : Addr) (cl : Value) (cld : Option Addr) (csl : Array (Option Value)), l = [(("__class__" : Str), cc)] ∧ K.lookup cc = some ⟨cl, cld, .cell (some (.ref D)), csl⟩ := by
  match l, h, e with
  | [(x, cc)], h, e =>
    have ex : x = ("__class__" : Str) := by
      simp only [List.map_cons, List.map_nil, List.cons.injEq, and_true] at e
      exact e
    subst ex
    have b9 : cellB K cc D = true := h
    unfold cellB at b9
    split at b9
    · rename_i cl cld E csl hcell
      have := of_decide_eq_true b9
      subst this
      exact ⟨cc, _, _, _, rfl, hcell⟩
    · cases b9
  | [], _, e => cases e
  | _ :: _ :: _, h, _ => cases h
def iniB (P : Program) (K : PySem.W.Frag) (d : IniD) : Bool := eqO (PySem.W.findIn K (.ref (ga K d.cls)) "__init__") (some (some (.ref (iAd K d.cls)))) && (decide (PySem.W.typeIn K (.ref (iAd K d.cls)) = some (.type "function")) && (PySem.W.fnIn K (iAd K d.cls) && (match K.lookup (iAd K d.cls) with
  | some ⟨_, _, .func fd, _⟩ => isNone fd.defaults && (codeB P K d.qual fd.code && closB K (ga K d.cls) fd.closure)
  | _ => false)))
theorem ini_of {P : Program} {K : PySem.W.Frag} {d : IniD} (e : fnY K d.cls = d.val) (b : iniB P K d = true) :
    PySem.W.findIn K (.ref (ga K d.cls)) "__init__" = some (some (.ref (iAd K d.cls))) ∧ PySem.ErX.Ini P K (iAd K d.cls) (ga K d.cls) d.qual d.params d.body d.scope := by
  obtain ⟨h1, b⟩ := ba b
  obtain ⟨h2, b⟩ := ba b
  obtain ⟨h3, b⟩ := ba b
  refine ⟨eqO_ok h1, ?_, of_decide_eq_true h2, h3⟩
  unfold fnY at e
  cases q : K.lookup (iAd K d.cls) with
  | none => rw [q] at b; cases b
  | some o =>
    obtain ⟨oc, od, dt, osl⟩ := o
    rw [q] at b e
    cases dt with
    | func fd =>
      have b2 : (isNone fd.defaults && (codeB P K d.qual fd.code && closB K (ga K d.cls) fd.closure)) = true := b
      have e2 : (some (fd.name, fd.qualname, fd.params, fd.body, fd.scope, fd.globals, fd.closure.map (·.1), fd.builtins) : FnY) = some (("__init__" : Str), d.qual, d.params, FuncBody.stmts d.body, d.scope, mainGlobals, [("__class__" : Str)], builtinsNs) := e
      clear b e
      obtain ⟨b3, b4⟩ := ba b2
      obtain ⟨b5, b6⟩ := ba b4
      obtain ⟨n1, n2, n3, n4, n5, n6, n7, n8, n9, n10, n11, n12, n13, n14, n15⟩ := fd
      simp only [Option.some.injEq, Prod.mk.injEq] at e2
      obtain ⟨rfl, rfl, rfl, rfl, rfl, rfl, e7, rfl⟩ := e2
      have e8 := isNone_eq b3
      dsimp only at e8
      subst e8
      obtain ⟨c, ccl, cdd, ccs, vs, file, tf, e9, k1, k2, k3, k4⟩ := codeB_ok b5
      dsimp only at e9
      subst e9
      obtain ⟨cc, cl, cld, csl, e10, k5⟩ := closB_ok b6 e7
      dsimp only at e10
      subst e10
      exact ⟨oc, od, osl, n9, n10, n11, n12, c, n14, cc, cl, cld, csl, ccl, cdd, ccs, vs, file, tf, rfl, k1, k5, k2, k3, k4⟩
    | _ => cases b
/-- the class at C, an own error over B -/
def clsB (K : PySem.W.Frag) (C B : Addr) : Bool := (match K.lookup C with
  | some ⟨.type t, _, .cls cd, sl⟩ => decide (t = "type") && (match cd.mro, sl.toList with
    | .ref C' :: bm, [_, _, _, _, some (.builtin n), _] => decide (C' = C) && (decide (n = "ValueError.__new__") && (!cd.hasDel && (cd.hasDict && PySem.HandSPX.refsVE bm)))
    | _, _ => false)
  | _ => false) && (eqO (PySem.W.findIn K (.ref C) "__setattr__") (some (some (.builtin "object.__setattr__"))) && (decide (PySem.W.subIn K (.ref C) (.type "BaseException") = some true) && (decide (PySem.W.subIn K (.ref C) (.type "ValueError") = some true) &&
    (decide (PySem.W.typeIn K (.ref C) = some (.type "type")) && (PySem.W.keepIn K (.ref C) && ((PySem.W.clsIn K B).isSome && (decide (PySem.W.mroIn K C (.ref B) = some true) && (eqO (PySem.W.ks_superIn K C B "__init__") (some (some (.builtin "ValueError.__init__"))) &&
    (eqO (PySem.W.findIn K (.ref C) "word") (some none) && eqO (PySem.W.findIn K (.ref C) "told") (some none))))))))))
theorem clsB_ok {K : PySem.W.Frag} {C B : Addr} (h : clsB K C B = true) : PySem.ErX.Cls K C B := by
  obtain ⟨h1, h⟩ := ba h
  obtain ⟨h2, h⟩ := ba h
  obtain ⟨h3, h⟩ := ba h
  obtain ⟨h4, h⟩ := ba h
  obtain ⟨h5, h⟩ := ba h
  obtain ⟨h6, h⟩ := ba h
  obtain ⟨h7, h⟩ := ba h
  obtain ⟨h8, h⟩ := ba h
  obtain ⟨h9, h⟩ := ba h
  obtain ⟨h10, h11⟩ := ba h
  refine ⟨?_, eqO_ok h2, of_decide_eq_true h3, of_decide_eq_true h4, of_decide_eq_true h5, h6, h7, of_decide_eq_true h8, eqO_ok h9, eqO_ok h10, eqO_ok h11⟩
  split at h1
  · rename_i t dd cd sl ho
    obtain ⟨a1, a2⟩ := ba h1
    have a1 := of_decide_eq_true a1
    subst a1
    split at a2
    · rename_i C' bm k0 k1 k2 k3 n k5 hm hs
      obtain ⟨b1, b⟩ := ba a2
      obtain ⟨b2, b⟩ := ba b
      obtain ⟨b3, b⟩ := ba b
      obtain ⟨b4, b5⟩ := ba b
      have b1 := of_decide_eq_true b1
      have b2 := of_decide_eq_true b2
      subst b1 b2
      obtain ⟨nm, bs, mro, ns, qn, hd, sn, sub, ab, col, del⟩ := cd
      dsimp only at hm b3 b4
      have b3 : del = false := by simpa using b3
      subst hm b3 b4
      have hsl : sl = #[k0, k1, k2, k3, some (.builtin "ValueError.__new__"), k5] := by
        obtain ⟨l⟩ := sl
        simp only at hs
        rw [hs]
      subst hsl
      exact ⟨nm, qn, ns, bs, bm, sn, sub, ab, col, dd, k0, k1, k2, k3, k5, ho, b5⟩
    · cases a2
  · cases h1
/-- the error x, its base b, its field p -/
def errB (P : Program) (K : PySem.W.Frag) (x b p : Str) : Bool := eqO (PySem.W.nsIn K mainGlobals x) (some (some (.ref (ga K x)))) && (clsB K (ga K x) (ga K b) && (eqO (PySem.W.ks_superIn K (ga K x) (ga K x) "__init__") (some (some (.ref (iAd K b)))) &&
  (decide (PySem.W.mroIn K (ga K x) (.ref (ga K x)) = some true) && (eqO (PySem.W.findIn K (.ref (ga K x)) p) (some none) && (eqO (PySem.W.nsIn K cStatics "thirdparty.any") (some none) && (eqO (PySem.W.nsIn K mainGlobals "super") (some none) && !(P.main.scope.names.lookup ("super" : Str)).isSome))))))
theorem err_of {P : Program} {K : PySem.W.Frag} {h : Heap} {mg : Str → Option Value} (X : K.In h) (G : h.Ns mainGlobals mg) {dx db : IniD} {p W qx qb : Str} {j : Nat} {g1 g2 a1 a2 a3 a4 a5 a6 a7 b1 b2 b3 b4 P1 P2 P3 A1 A2 A3 A4 A5 A6 B1 B2 B3 B4 C1 C2 C3 C4 : Pos}
    (ex : fnY K dx.cls = dx.val) (ix : iniB P K dx = true) (eb : fnY K db.cls = db.val) (ib : iniB P K db = true) (e : errB P K dx.cls db.cls p = true)
    (tx : dx = ⟨dx.cls, qx, PySem.ErX.lA p g1 g2, PySem.ErX.lB p W j a1 a2 a3 a4 a5 a6 a7 b1 b2 b3 b4, PySem.ErX.lS p⟩) (tb : db = ⟨db.cls, qb, PySem.ErX.bA P1 P2 P3, PySem.ErX.bB A1 A2 A3 A4 A5 A6 B1 B2 B3 B4 C1 C2 C3 C4, PySem.ErX.bS⟩)
    (hp : (a3.endLine == a6.line) = true) (hpB : (A3.endLine == A5.line) = true) (n1 : p ≠ "self") (n2 : (p == ("__debug__" : Str)) = false) (hk1 : (PySem.ErX.lS p).names.lookup p = some .local) (hk3 : (PySem.ErX.lS p).names.lookup ("super" : Str) = some .globalImplicit) (hk4 : (PySem.ErX.lS p).names.lookup ("__class__" : Str) = some .free)
    (hbi : ∀ (s : Shared) (kV doc pm : Value) (an : Option Addr) (cda ct : Value) (cc : Addr) (a b : Value), BindsTo s (PySem.W.ksFn "__init__" qx (PySem.ErX.lA p g1 g2) (PySem.ErX.lB p W j a1 a2 a3 a4 a5 a6 a7 b1 b2 b3 b4) (PySem.ErX.lS p) .none kV doc pm an cda ct cc) ⟨[a, b], []⟩ [("self", a), (p, b)]) :
    L2.ErrT P K mg dx.cls W p (ga K dx.cls) := by
  obtain ⟨h1, e⟩ := ba e
  obtain ⟨h2, e⟩ := ba e
  obtain ⟨h3, e⟩ := ba e
  obtain ⟨h4, e⟩ := ba e
  obtain ⟨h5, e⟩ := ba e
  obtain ⟨h6, e⟩ := ba e
  obtain ⟨h7, h8⟩ := ba e
  obtain ⟨i1, i2⟩ := ini_of ex ix
  obtain ⟨j1, j2⟩ := ini_of eb ib
  have Y := clsB_ok h2
  rw [tx] at i2
  rw [tb] at j2
  refine ⟨PySem.W.mg_of X G (eqO_ok h1), eqO_ok h1, ⟨_, Y⟩, _, i1, i2.ty, fun w base A s R x0 t0 v M hb hxb hx hr hq => ?_⟩
  have Gd : PySem.ErX.Gnd P K mg base := ⟨M, PySem.W.mg_none_of X G (eqO_ok h7), by simpa using h8, eqO_ok h6⟩
  rw [← tb] at j2
  have j3 : PySem.ErX.Ini P K (iAd K db.cls) (ga K db.cls) qb (PySem.ErX.bA P1 P2 P3) (PySem.ErX.bB A1 A2 A3 A4 A5 A6 B1 B2 B3 B4 C1 C2 C3 C4) PySem.ErX.bS := by
    have := j2
    rw [tb] at this
    exact this
  exact PySem.ErX.leaf_init (B := ga K db.cls) (fB := iAd K db.cls) Gd i2 j3 Y (eqO_ok h3) (of_decide_eq_true h4) (eqO_ok h5) hp hpB n1 n2 hk1 hk3 hk4 hbi hb hxb hx hr hq
/-! ### the hook -/
abbrev AlY : Type := AlD × List FnY
def obsY (fa : List Fa) (fn : List DefD) (ini : List IniD) (ex : PySem.W.Frag → Bool) (K : PySem.W.Frag) : AlY := (obsQ fa fn ex K, ini.map fun d => fnY K d.cls)
def obsYG (n : Nat) (fa : List Fa) (fn : List DefD) (ini : List IniD) (ex : PySem.W.Frag → Bool) (g : Addr → Option Obj) : AlY := obsY fa fn ini ex (frG g (cStatics :: asD g n))
structure SaysY (fa : List Fa) (fn : List DefD) (ini : List IniD) (ex : PySem.W.Frag → Bool) (K : PySem.W.Frag) : Prop where
  d : SaysD fa fn K
  ex : ex K = true
  ini : ini.map (fun d => fnY K d.cls) = ini.map IniD.val
def hookY (n : Nat) (fa : List Fa) (fn : List DefD) (ini : List IniD) (ex : PySem.W.Frag → Bool) : PySem.W.Hook where
  α := AlY
  obs := fun s => obsYG n fa fn ini ex s.heap.get?
  val := fun _ => (He.valD fn, ini.map IniD.val)
  says := fun _ h => ∃ K : PySem.W.Frag, K.In h ∧ SaysY fa fn ini ex K
  of := fun _ _ e => ⟨_, frG_in, by
    have e0 := congrArg (fun z : AlY => z.1) e
    have e1 : (((fa.all fun f => f.ok _) && fn.all fun d => d.ok _) && ex _) = true := congrArg (fun z : AlD => z.1) e0
    have e2 := congrArg (fun z : AlD => z.2) e0
    obtain ⟨e3, e4⟩ := ba e1
    exact ⟨Prod.ext e3 e2, e4, congrArg (fun z : AlY => z.2) e⟩⟩
  keeps := fun _ _ _ ⟨K, hK, c⟩ k => ⟨K, PySem.W.Frag.In.keeps hK k, c⟩
theorem obsYG_eq {n : Nat} {fa : List Fa} {fn : List DefD} {ini : List IniD} {ex : PySem.W.Frag → Bool} {g : Addr → Option Obj} {s : Shared} (h : ∀ a, g a = s.heap.get? a) : obsYG n fa fn ini ex g = (hookY n fa fn ini ex).obs s := by
  have e : g = s.heap.get? := funext h
  rw [e] <;> rfl
theorem SaysY.at {fa : List Fa} {fn : List DefD} {ini : List IniD} {ex : PySem.W.Frag → Bool} {K : PySem.W.Frag} (c : SaysY fa fn ini ex K) (i : Nat) {d : IniD} (h : ini[i]? = some d := by rfl) : fnY K d.cls = d.val := by
  have e2 : (ini.map fun d => fnY K d.cls)[i]? = (ini.map IniD.val)[i]? := by rw [c.ini]
  rw [List.getElem?_map, List.getElem?_map, h] at e2
  exact Option.some.inj e2
end Ow
/-! Ow45: words for the printed walks with own errors -/
namespace Ow
open PySem PySem.Spec PyProof.Rows L2 He
def clsBody : Stmt → List Stmt
  | .ClassDef _ _ _ b _ _ _ _ _ _ _ => b
  | _ => []
def initOf (st : Stmt) (j : Nat) : Stmt := (clsBody st).getD j (.Pass ⟨0, 0, 0, 0⟩)
section
variable {X : Cx} {kit : Kit} {fs ts : List Str} {bs : List String} {es : List Str}
theorem suf_es {K : PySem.W.Frag} (F : SuF K kit fs ts bs es) {T : Str} (hT : T ∈ es) {D : Addr} (hD : PySem.W.nsIn K mainGlobals T = some (some (.ref D))) :
    ∀ y ∈ kit.map (·.1), ∀ C, PySem.W.nsIn K mainGlobals y = some (some (.ref C)) → PySem.W.exmOne K (.ref C) (.ref D) = some true := fun y hy C hC => by
  obtain ⟨q, hq, e⟩ := List.mem_map.mp hy
  cases hl : kit.lookup y with
  | some l => exact F.es y l hl C hC T hT D hD
  | none =>
    have := List.lookup_eq_none_iff.mp hl q hq
    rw [e] at this
    simp at this
theorem ck_eqU (hu : X.A.units + 64 < cLine) : CmpK X .Eq (rEqD X.K) fEq := ⟨op_eqD hu, binS_eq⟩
theorem ck_neU (hu : X.A.units + 64 < cLine) : CmpK X .NotEq (rNeD X.K) fNe := ⟨op_neD hu, binS_ne⟩
/-- a class that stands in the module -/
structure ClG (K : PySem.W.Frag) (mg : Str → Option Value) (x : Str) : Prop where
  m : mg x = some (.ref (ga K x))
  n : PySem.W.nsIn K mainGlobals x = some (some (.ref (ga K x)))
theorem clG_ok {K : PySem.W.Frag} {h : Heap} {mg : Str → Option Value} (Y : K.In h) (G : h.Ns mainGlobals mg) {x : Str} (c : (Fa.glo x).ok K = true) : ClG K mg x := ⟨glo_ok Y G c, eqO_ok c⟩
end
/-! ### a text in capitals -/
def oUpper (o : O D) : O D := fun ρ => (o ρ).bind fun d ρ1 => match d with
  | .str a => if a.length ≤ 5592405 then .ok (.str (PySem.Txt.upper a)) ρ1 else .st
  | _ => .st
theorem pd_upper {X : Cx} {G : Gm} {B : Wish} {e : Expr} {o : O D} {apos pos : Pos} (he : PD X G B e o) (hbase : attributeBase e "upper" X.env (eval e X.env) = eval e X.env := by rfl) (hline : (apos.endLine == pos.line) = true := by rfl) :
    PD X G B (.Call (.Attribute e "upper" apos) [] [] pos) (oUpper o) :=
  pe_imp (pe_upper he hbase hline) fun σ H Q w => run_imp w fun v d ρ1 Z1 H1 S1 r p1 => by
    try dsimp only at p1
    split at p1
    · rename_i a
      split at p1
      · rename_i hl
        have r : Rp X.K Z1 v (.str a) := r
        cases r
        exact ⟨⟨a, rfl⟩, a, rfl, rfl, hl, p1 _ Z1 H1 (.refl _) S1 (.str _)⟩
      · exact p1.elim
    · exact p1.elim
/-! ### plain programs run -/
section
variable {i : Nat} {cs : List Str} {ob : Os} {S : Addr → Xn → Os} {ρ ρ1 ρ2 : Rho} {x : Xn} {r : Rs}
theorem oTry_ok (h : ∀ x ρ1, ob ρ ≠ .ex x ρ1) : oTry i cs ob S ρ = ob ρ := by
  unfold oTry
  split
  · rename_i x ρ1 e
    exact absurd e (h x ρ1)
  · rfl
theorem oTry_ex {m : Mo} (h : ob ρ = .ex x ρ1) (hc : x.cls ∈ cs) (ht : x.told.isEmpty = false) (hs : ∀ a, strip i (match setSl ρ1 i (.pu (hnd a)) with | some ρ2 => S a x ρ2 | none => .st) = m) : oTry i cs ob S ρ = m := by
  unfold oTry
  rw [h]
  dsimp only
  rw [if_pos ⟨hc, ht⟩]
  exact seal_of hs
end
end Ow
/-! Ow46: == and in over data at any depth, with the module's tuples and the script's list in it -/
namespace Ow
open PySem PySem.Spec PyProof.Rows L2 He
mutual
def unk : D → D
  | .list ds => .list (unkAll ds)
  | .tuple ds => .tuple (unkAll ds)
  | .dict [(.bool true, .tuple ds)] => .tuple (unkAll ds)
  | .dict [(.none, .list ds)] => .list (unkAll ds)
  | d => d
def unkAll : List D → List D
  | [] => []
  | d :: ds => unk d :: unkAll ds
end
theorem unkAll_map : ∀ ds : List D, unkAll ds = ds.map unk
  | [] => by simp [unkAll]
  | d :: ds => by simp [unkAll, unkAll_map ds]
@[simp] theorem unk_list (ds : List D) : unk (.list ds) = .list (ds.map unk) := by simp [unk, unkAll_map]
@[simp] theorem unk_tuple (ds : List D) : unk (.tuple ds) = .tuple (ds.map unk) := by simp [unk, unkAll_map]
@[simp] theorem unk_scr (ds : List D) : unk (.dict [(.none, .list ds)]) = .list (ds.map unk) := by simp [unk, unkAll_map]
@[simp] theorem unk_kon (ds : List D) : unk (.dict [(.bool true, .tuple ds)]) = .tuple (ds.map unk) := by simp [unk, unkAll_map]
@[simp] theorem unk_int (i : Int) : unk (.int i) = .int i := by simp [unk]
@[simp] theorem unk_str (i : Str) : unk (.str i) = .str i := by simp [unk]
@[simp] theorem unk_bool (i : Bool) : unk (.bool i) = .bool i := by simp [unk]
@[simp] theorem unk_none : unk .none = .none := by simp [unk]
section
variable {K : PySem.W.Frag} {Z H : Hp}
mutual
theorem Rp.dpK {v : V} {d : D} (h : Rp K Z v d) (c : (unk d).canLay0 = true) : Dp K Z v (unk d) := by
  cases h with
  | non => simpa using Dp.non
  | bl b => simpa using Dp.bl b
  | int i => simpa using Dp.int i
  | str x => simpa using Dp.str x
  | lst h1 h2 =>
    rw [unk_list] at c ⊢
    exact .lst (SqL.of h1) (RpAll.dpK h2 (by simpa [PyData.canLay0] using c))
  | tup h1 h2 =>
    rw [unk_tuple] at c ⊢
    exact .tup (SqT.of h1) (RpAll.dpK h2 (by simpa [PyData.canLay0] using c))
  | kon h1 h2 =>
    rw [unk_kon] at c ⊢
    exact .tup h1 (RpAll.dpK h2 (by simpa [PyData.canLay0] using c))
  | frz h1 h2 =>
    rw [unk_scr] at c ⊢
    exact .lst h1 (RpAll.dpK h2 (by simpa [PyData.canLay0] using c))
  | exn => simp [unk, PyData.canLay0] at c
  | dct h1 h2 =>
    unfold unk at c
    simp [PyData.canLay0] at c
theorem RpAll.dpK {vs : List V} {ds : List D} (h : RpAll K Z vs ds) (c : PyData.canLayAll0 (ds.map unk) = true) : DpAll K Z vs (ds.map unk) := by
  cases h with
  | nil => exact .nil
  | @cons v vs d ds h1 h2 =>
    have c' : (unk d).canLay0 = true ∧ PyData.canLayAll0 (List.map unk ds) = true := by simpa [PyData.canLayAll0] using c
    exact .cons (h1.dpK c'.1) (h2.dpK c'.2)
end
theorem Rdb.dpK {v : V} {d : D} (h : Rdb K Z H v d) (e : Same Z H) (c : (unk d).canLay0 = true) : Dp K H v (unk d) := by
  rcases h with h | ⟨a, vs, ds, rfl, rfl, h3, h4⟩
  · exact (h.mono e).dpK c
  · rw [unk_list] at c ⊢
    exact .lst (SqL.of h3) ((h4.mono e).dpK (by simpa [PyData.canLay0] using c))
end
/-! ### x in ys, ys a tuple -/
section
variable {X : Cx}
def rInDT (K : PySem.W.Frag) : R2 := fun x y H Q => ∃ d ds, Dp K H x d ∧ Dp K H y (.tuple ds) ∧ SeqAt.shaped d = true ∧ SeqAt.shaped (.tuple ds) = true ∧ Q (.bl (ds.any fun z => PyData.eqv z d)) H
def rNotInDT (K : PySem.W.Frag) : R2 := fun x y H Q => ∃ d ds, Dp K H x d ∧ Dp K H y (.tuple ds) ∧ SeqAt.shaped d = true ∧ SeqAt.shaped (.tuple ds) = true ∧ Q (.bl (!ds.any fun z => PyData.eqv z d)) H
theorem op_inDT (hu : X.A.units + 65 < cLine) : OpR X (compareOp .In) (rInDT X.K) := by
  intro pins s σ H x y v u Q I rx ry h
  obtain ⟨d, ds, hd, he, sd, se, q⟩ := h
  obtain ⟨as, r1⟩ := Dp.reads I d x v hd rx
  obtain ⟨bs, r2⟩ := Dp.reads I (.tuple ds) y u he ry
  exact SeqAt.in_tuple_reads r2 r1 (SeqAt.canLay_of_shaped se) (SeqAt.canLay_of_shaped sd) (room_in_shaped sd hu) ⟨.bl _, H, I, rfl, q⟩
theorem op_notInDT (hu : X.A.units + 65 < cLine) : OpR X (compareOp .NotIn) (rNotInDT X.K) := by
  intro pins s σ H x y v u Q I rx ry h
  obtain ⟨d, ds, hd, he, sd, se, q⟩ := h
  obtain ⟨as, r1⟩ := Dp.reads I d x v hd rx
  obtain ⟨bs, r2⟩ := Dp.reads I (.tuple ds) y u he ry
  exact SeqAt.notIn_tuple_reads r2 r1 (SeqAt.canLay_of_shaped se) (SeqAt.canLay_of_shaped sd) (room_in_shaped sd hu) ⟨.bl _, H, I, rfl, q⟩
abbrev rInK (K : PySem.W.Frag) : R2 := fun x y H Q => rInD K x y H Q ∨ rInDT K x y H Q
abbrev rNotInK (K : PySem.W.Frag) : R2 := fun x y H Q => rNotInD K x y H Q ∨ rNotInDT K x y H Q
def fEqK (a b : D) : Option Rs := fEq (unk a) (unk b)
def fNeK (a b : D) : Option Rs := fNe (unk a) (unk b)
def fInK (neg : Bool) (a b : D) : Option Rs := match unk b with
  | .list ds => if SeqAt.shaped (unk a) = true ∧ SeqAt.shaped (.list ds) = true then some (.pu (.bool (if neg then !(ds.any fun z => PyData.eqv z (unk a)) else (ds.any fun z => PyData.eqv z (unk a))))) else none
  | .tuple ds => if SeqAt.shaped (unk a) = true ∧ SeqAt.shaped (.tuple ds) = true then some (.pu (.bool (if neg then !(ds.any fun z => PyData.eqv z (unk a)) else (ds.any fun z => PyData.eqv z (unk a))))) else none
  | _ => none
theorem binS_eqK {K : PySem.W.Frag} : BinS K (rEqD K) fEqK := by
  intro x y dx dy R Z H Q e rx ry hf k
  unfold fEqK fEq at hf
  split at hf
  · cases hf
    rename_i h
    exact ⟨unk dx, unk dy, rx.dpK e (shaped_lay h.1), ry.dpK e (shaped_lay h.2), h.1, h.2, k _ Z H (.refl e) (.bl _)⟩
  · cases hf
theorem binS_neK {K : PySem.W.Frag} : BinS K (rNeD K) fNeK := by
  intro x y dx dy R Z H Q e rx ry hf k
  unfold fNeK fNe at hf
  split at hf
  · cases hf
    rename_i h
    exact ⟨unk dx, unk dy, rx.dpK e (shaped_lay h.1), ry.dpK e (shaped_lay h.2), h.1, h.2, k _ Z H (.refl e) (.bl _)⟩
  · cases hf
theorem binS_inK {K : PySem.W.Frag} : BinS K (rInK K) (fInK false) := by
  intro x y dx dy R Z H Q e rx ry hf k
  unfold fInK at hf
  split at hf
  · rename_i ds hy
    split at hf
    · cases hf
      rename_i h
      have w := ry.dpK e (by rw [hy]; exact shaped_lay h.2)
      rw [hy] at w
      exact .inl ⟨unk dx, ds, rx.dpK e (shaped_lay h.1), w, h.1, h.2, k _ Z H (.refl e) (.bl _)⟩
    · cases hf
  · rename_i ds hy
    split at hf
    · cases hf
      rename_i h
      have w := ry.dpK e (by rw [hy]; exact shaped_lay h.2)
      rw [hy] at w
      exact .inr ⟨unk dx, ds, rx.dpK e (shaped_lay h.1), w, h.1, h.2, k _ Z H (.refl e) (.bl _)⟩
    · cases hf
  · cases hf
theorem binS_notinK {K : PySem.W.Frag} : BinS K (rNotInK K) (fInK true) := by
  intro x y dx dy R Z H Q e rx ry hf k
  unfold fInK at hf
  split at hf
  · rename_i ds hy
    split at hf
    · cases hf
      rename_i h
      have w := ry.dpK e (by rw [hy]; exact shaped_lay h.2)
      rw [hy] at w
      exact .inl ⟨unk dx, ds, rx.dpK e (shaped_lay h.1), w, h.1, h.2, k _ Z H (.refl e) (.bl _)⟩
    · cases hf
  · rename_i ds hy
    split at hf
    · cases hf
      rename_i h
      have w := ry.dpK e (by rw [hy]; exact shaped_lay h.2)
      rw [hy] at w
      exact .inr ⟨unk dx, ds, rx.dpK e (shaped_lay h.1), w, h.1, h.2, k _ Z H (.refl e) (.bl _)⟩
    · cases hf
  · cases hf
theorem ck_eqK {k : Nat} (hr : Room k X.A) : CmpK X .Eq (rEqD X.K) fEqK := ⟨op_eqD hr.units, binS_eqK⟩
theorem ck_neK {k : Nat} (hr : Room k X.A) : CmpK X .NotEq (rNeD X.K) fNeK := ⟨op_neD hr.units, binS_neK⟩
theorem ck_inK {k : Nat} (hr : Room k X.A) : CmpK X .In (rInK X.K) (fInK false) := ⟨(op_inD (by have := hr.un; omega)).or (op_inDT (by have := hr.un; omega)), binS_inK⟩
theorem ck_notinK {k : Nat} (hr : Room k X.A) : CmpK X .NotIn (rNotInK X.K) (fInK true) := ⟨(op_notInD (by have := hr.un; omega)).or (op_notInDT (by have := hr.un; omega)), binS_notinK⟩
end
end Ow
/-! Ow47: zip of a tuple and a text, as a rule (over KE.GoesZip) -/
namespace ZS
open PySem PySem.Spec PyProof.Rows L2 RZ
theorem siAt {h h' : Heap} {a : Addr} {ty : String} {x : Str} {t : Tok} {i : Nat} (y : h.IsStrIter a ty x t i) (k : ∀ o, h.get? a = some o → h'.get? a = some o) : h'.IsStrIter a ty x t i :=
  let ⟨o, ho, r⟩ := y; ⟨o, k o ho, r⟩
def ItzS (K : PySem.W.Frag) (a : Addr) (u : Str) : It :=
  ⟨fun i H => ∃ (xs : List V) (x : V), SqT K H a xs ∧ xs[i]? = some x ∧ i < u.cps.size,
    fun i H v H' => ∃ T x c, v = .ref T ∧ H T = none ∧ H' = upd H T (.tup [x, .str ⟨#[c]⟩]) ∧ (∀ xs, SqT K H a xs → xs[i]? = some x) ∧ u.cps[i]? = some c,
    fun i H => ∃ xs : List V, SqT K H a xs ∧ xs.length = i ∧ i ≤ u.cps.size⟩
/-- the five new cells and the tuple lie apart -/
structure Sep (z TI TO i1 i2 a : Addr) : Prop where
  TIz : TI ≠ z
  TOz : TO ≠ z
  TITO : TI ≠ TO
  TIi1 : TI ≠ i1
  TIi2 : TI ≠ i2
  zi1 : z ≠ i1
  zi2 : z ≠ i2
  za : z ≠ a
  Ti1 : TO ≠ i1
  Ti2 : TO ≠ i2
  Ta : TO ≠ a
  i12 : i1 ≠ i2
  ai2 : a ≠ i2
  ai1 : a ≠ i1
theorem Sep.two {z TI TO i1 i2 a : Addr} (S : Sep z TI TO i1 i2 a) : ZipSep2 z TI TO i1 i2 [i1, a] [i2] where
  TIz := S.TIz
  TOz := S.TOz
  TITO := S.TITO
  TIi1 := S.TIi1
  mem1 := by simp
  zf1 := by simp [S.zi1, S.za]
  Tf1 := by simp [S.Ti1, S.Ta]
  TIi2 := S.TIi2
  mem2 := by simp
  zf2 := by simp [S.zi2]
  Tf2 := by simp [S.Ti2]
  sep1_2 := by simp [S.i12]
  sep2_1 := by simp [S.i12.symm, S.ai2.symm]
theorem sep_new {n a : Addr} (h : a < n) : Sep (n + 4) (n + 2) (n + 3) n (n + 1) a := by
  have g : ∀ i j : Nat, i ≠ j → (n + i : Nat) ≠ n + j := fun i j h e => h (Nat.add_left_cancel e)
  have g0 : ∀ i : Nat, i ≠ 0 → (n + i : Nat) ≠ n := fun i h e => h (Nat.add_left_cancel (k := 0) e)
  have ga : ∀ i : Nat, (n + i : Nat) ≠ a := fun i => Nat.ne_of_gt (Nat.lt_of_lt_of_le h (Nat.le_add_right n i))
  exact ⟨g 2 4 (by decide), g 3 4 (by decide), g 2 3 (by decide), g0 2 (by decide), g 2 1 (by decide), g0 4 (by decide), g 4 1 (by decide), ga 4, g0 3 (by decide), g 3 1 (by decide), ga 3, (g0 1 (by decide)).symm, (ga 1).symm, (ga 0).symm⟩
/-- what a turn of the loop leans on -/
def ZSt (u : Str) (t : Tok) (a z TI TO i1 i2 : Addr) (i : Nat) (h : Heap) : Prop :=
  IsZip h z TI TO .none ∧ IsTupOf2 h TI (.ref i1) (.ref i2) ∧ (∃ x y, IsTupOf2 h TO x y) ∧ h.IsTupleIter i1 a i ∧ h.IsStrIter i2 (strIterType u) u t i
theorem ZSt.move {u : Str} {t : Tok} {a z TI TO i1 i2 : Addr} {i : Nat} {h h' : Heap} (q : ZSt u t a z TI TO i1 i2 i h) (k : ∀ c ∈ [z, TI, TO, i1, i2], ∀ o, h.get? c = some o → h'.get? c = some o) : ZSt u t a z TI TO i1 i2 i h' := by
  obtain ⟨q1, q2, ⟨x, y, q3⟩, q4, q5⟩ := q
  exact ⟨k z (by simp) _ q1, k TI (by simp) _ q2, ⟨x, y, k TO (by simp) _ q3⟩, q4.at fun o e => k i1 (by simp) o e, siAt q5 fun o e => k i2 (by simp) o e⟩
theorem ZSt.cell {u : Str} {t : Tok} {a z TI TO i1 i2 : Addr} {i : Nat} {h : Heap} (q : ZSt u t a z TI TO i1 i2 i h) : ∀ c ∈ [z, TI, TO, i1, i2], ∃ o, h.get? c = some o ∧ ∀ v, o.data ≠ .cell v := by
  obtain ⟨q1, q2, ⟨x, y, q3⟩, ⟨o1, e1, _, d1⟩, ⟨o2, e2, _, d2⟩⟩ := q
  intro c hc
  simp only [List.mem_cons, List.not_mem_nil, or_false] at hc
  rcases hc with rfl | rfl | rfl | rfl | rfl
  · exact ⟨_, q1, by intro v q; cases q⟩
  · exact ⟨_, q2, by intro v q; cases q⟩
  · exact ⟨_, q3, by intro v q; cases q⟩
  · exact ⟨o1, e1, by intro v q; rw [d1] at q; cases q⟩
  · exact ⟨o2, e2, by intro v q; rw [d2] at q; cases q⟩
theorem ZSt.lt {u : Str} {t : Tok} {a z TI TO i1 i2 : Addr} {i : Nat} {h : Heap} (q : ZSt u t a z TI TO i1 i2 i h) {c : Addr} (hc : c ∈ [z, TI, TO, i1, i2]) : c < h.objs.size := by
  obtain ⟨o, e, _⟩ := q.cell c hc
  exact Heap.lt_size e
theorem turn_zipS {P : Program} {w : World} {K : PySem.W.Frag} {elts : List Expr} {kk : Nat} {tpos : Pos} {a z TI TO i1 i2 : Addr} {u : Str} {t : Tok} (D : Sep z TI TO i1 i2 a) :
    Turn P w K (.Tuple elts kk tpos) (ItzS K a u) [z, TI, TO, i1, i2] z (ZSt u t a z TI TO i1 i2) := by
  have out : ∀ {c : Addr}, c ∉ [z, TI, TO, i1, i2] → c ≠ z ∧ c ≠ TI ∧ c ≠ TO ∧ c ≠ i1 ∧ c ≠ i2 := fun hc => by simpa using hc
  refine ⟨by simp, fun i h q => q.cell, fun i h h' q k => q.move k, ?_, ?_, fun A i s Q E q hq => wpAny_pyIter_zip q.1 hq⟩
  · intro X hP hw hK hc i pins s σ H E I hf q hg
    subst hP hw hK
    obtain ⟨xs, x, hs, hx, hi⟩ := hg
    obtain ⟨its, rv, hp, _⟩ := I.tuple hs
    obtain ⟨ux, hux, rx⟩ := rv.get hx
    have hl : i < its.toArray.size := by
      have := (List.getElem?_eq_some_iff.mp hux).1
      simpa using this
    have q' := q
    obtain ⟨qz, qI, ⟨x0, y0, qO⟩, qa, qb⟩ := q'
    have hh : X.A.in1.handled = none := I.ok.hd hc
    refine wpAny_pyNext_zipD2_item D.two (.tuple hh i1 a D.ai1 its.toArray) (.text hh i2 u t) qz qI qO ⟨qa, hp⟩ qb hl hi fun v1 v2 h1 tk p1 p2 z1 O1 s1 s2 hT hz hk => ?_
    obtain ⟨c, uc, hc1, rfl⟩ := p2
    have ev : v1 = ux := by
      have p1 : its.toArray[i]? = some v1 := p1
      have : its[i]? = some v1 := by simpa using p1
      rw [hux] at this
      exact (Option.some.inj this).symm
    subst ev
    refine ⟨_, rfl, wpAny_letOwnedTupleGo_zip (s := { s with heap := h1, toks := tk }) z1 fun h2 z2 sb => ?_⟩
    have far : ∀ {c : Addr}, c < s.heap.objs.size → c ≠ s.heap.objs.size := fun hc => Nat.ne_of_lt hc
    have hzl : z < s.heap.objs.size := q.lt (by simp)
    have hT2 := (sb.2 s.heap.objs.size (far hzl).symm).trans hT
    have new : ObjOk X.prog X.w (upd H s.heap.objs.size (.tup [x, .str ⟨#[c]⟩])) h2 s.heap.objs.size (.tup [x, .str ⟨#[c]⟩]) := by
      refine ⟨?_, [v1, .str ⟨#[c]⟩ uc], .cons rx (.cons ⟨_, rfl⟩ .nil), ⟨_, hT2, rfl, _, rfl⟩⟩
      show 2 ≤ sizeLine
      decide
    have I1 := I.turnedNew (t' := tk) (ch := [z, TI, TO, i1, i2]) (h' := h2) (fun c o hb e => by
      obtain ⟨n1, _, n3, n4, n5⟩ := out hb
      exact (sb.2 c n1).trans (hk c o n1 n3 n4 n5 e)) hf (Nat.le_refl _) new
    refine ⟨.ref s.heap.objs.size, _, I1, rfl, ⟨_, x, c, rfl, I.hok.fresh (Nat.le_refl _), rfl, fun l hl => by rw [I.tuple_inj hl hs]; exact hx, hc1⟩, ?_, fun b hb => ?_⟩
    · exact ⟨z2, (sb.2 _ D.TIz).trans (hk _ _ D.TIz D.TITO D.TIi1 D.TIi2 qI), ⟨_, _, (sb.2 _ D.TOz).trans O1⟩, s1.1.at fun o e => (sb.2 _ D.zi1.symm).trans e, siAt s2 fun o e => (sb.2 _ D.zi2.symm).trans e⟩
    · rw [upd_ne (far (q.lt hb))]
      exact (hf b hb).1
  · intro X hP hw hK hc i pins s σ H E I hf q hg
    subst hP hw hK
    obtain ⟨xs, hs, hx, hi⟩ := hg
    obtain ⟨its, rv, hp, _⟩ := I.tuple hs
    have hl : i = its.toArray.size := by
      have := rv.length
      simp
      omega
    obtain ⟨qz, qI, ⟨x0, y0, qO⟩, qa, qb⟩ := q
    have hh : X.A.in1.handled = none := I.ok.hd hc
    refine wpAny_pyNext_zipD2_end D.two (.tuple hh i1 a D.ai1 its.toArray) (.text hh i2 u t) qz qI qO ⟨qa, hp⟩ qb (Nat.le_of_eq hl) hi (.inl hl) fun h1 tk hk => ⟨rfl, ?_⟩
    refine I.turnedL (t' := tk) (ch := [z, TI, TO, i1, i2]) (fun c o hb e => ?_) hf
    obtain ⟨n1, _, n3, n4, n5⟩ := out hb
    exact hk c o n1 n3 n4 n5 e
def iZipS (K : PySem.W.Frag) (ta : TA) : TI := fun σ H R => ta σ H fun vs H1 => ∃ a u xs, vs = [.ref a, .str u] ∧ SqT K H1 a xs ∧ R (ItzS K a u) H1
theorem pi_zipS {X : Cx} {e e2 : Expr} {ta : TA} {p pos tpos : Pos} {elts : List Expr} {kk : Nat} (hg : Gl X "zip") (hm : X.mg "zip" = none) (ha : PA X [e, e2] ta)
    (hs : starEach [e, e2] X.env = (false, eval e X.env) :: starEach [e2] X.env := by rfl) (hpl : (backTo pos (starEach [e2] X.env)).any (·.1) = false := by rfl) :
    PI X (.Tuple elts kk tpos) (.Call (.Name "zip" p) [e, e2] [] pos) (iZipS X.K ta) := by
  constructor
  intro pins s σ H R I h
  refine Call_ (ld_blt I hg hm PyProof.Rows.boot_zip (PyProof.Rows.callWith_type1 (thn (ha.run pos pins s σ H _ I h) ?_) hs hpl))
  rintro us s1 ⟨vs, H1, I1, r1, a, u, xs, rfl, hq, q⟩
  obtain ⟨va, vb, rfl, ra, rb⟩ : ∃ va vb, us = [va, vb] ∧ RelV (.ref a) va ∧ RelV (.str u) vb := by
    cases r1 with
    | cons ra rr =>
      cases rr with
      | cons rb rr =>
        cases rr
        exact ⟨_, _, rfl, ra, rb⟩
  obtain rfl : va = Value.ref a := ra
  obtain ⟨t, rfl⟩ := rb
  obtain ⟨its, rv, hp, _⟩ := I1.tuple hq
  have hal : a < s1.heap.objs.size := by
    obtain ⟨o, ho, _⟩ := hp
    exact Heap.lt_size ho
  refine zip_begins2 (begins_tuple a its.toArray) (begins_text u t) hp trivial fun h1 qz qI qO qa qb hz hk => wpAny_pyIter_zip qz ?_
  refine ⟨_, [s1.heap.objs.size + 4, s1.heap.objs.size + 2, s1.heap.objs.size + 3, s1.heap.objs.size, s1.heap.objs.size + 1], _, _, H1, rfl, I1.kept (t' := s1.toks) hk, turn_zipS (t := t) (sep_new hal), ⟨qz, qI, ⟨_, _, qO⟩, ⟨_, qa, rfl, rfl⟩, ⟨_, qb, rfl, rfl⟩⟩, fun c hc => ?_, q⟩
  have hle : s1.heap.objs.size ≤ c := by
    simp only [List.mem_cons, List.not_mem_nil, or_false] at hc
    rcases hc with h | h | h | h | h <;> rw [h] <;> omega
  exact I1.fpOk hle (I1.hok.fresh hle)
end ZS
namespace Ow
open PySem PySem.Spec PyProof.Rows L2 RZ ZS
theorem walk_zipS {K : PySem.W.Frag} {a : Addr} {u : Str} {xs : List V} {n : Nat} (hn : n = xs.length) (hl : xs.length ≤ u.cps.size) : Walk (ItzS K a u) n (fun H => SqT K H a xs) (fun i H v H' => ∃ T x c, v = V.ref T ∧ H T = none ∧ H' = upd H T (.tup [x, .str ⟨#[c]⟩]) ∧ xs[i]? = some x ∧ u.cps[i]? = some c) := by
  subst hn
  refine ⟨fun i H hi h1 => ⟨xs, xs[i]'hi, h1, by simp, by omega⟩, fun H h1 => ⟨xs, h1, rfl, hl⟩, fun i H x H' hi h1 y => ?_⟩
  obtain ⟨T, u, v, e1, e2, e3, e4, e5⟩ := y
  exact ⟨T, u, v, e1, e2, e3, e4 xs h1, e5⟩
theorem pairsD_len : ∀ (as bs : List D), (pairsD as bs).length = min as.length bs.length
  | [], _ => by simp [pairsD]
  | _ :: _, [] => by simp [pairsD]
  | a :: as, b :: bs => by
    show (pairsD as bs).length + 1 = _
    rw [pairsD_len as bs, List.length_cons, List.length_cons]
    omega
theorem walkD_zipS {K : PySem.W.Frag} {Z : Hp} {a : Addr} {u : Str} {vs : List V} {ds : List D} (h : SqT K Z a vs) (r : RpAll K Z vs ds) (hl : ds.length ≤ u.cps.size) : WalkD K Z (ItzS K a u) (pairsD ds (signs u)) := by
  have hsl : (signs u).length = u.cps.size := by unfold signs; rw [List.length_map, Array.length_toList]
  refine ⟨_, _, walk_zipS (K := K) (a := a) (u := u) (xs := vs) (by rw [pairsD_len, r.length, hsl]; omega) (by rw [r.length]; exact hl), fun H e => sqT_mono e h, fun i H x H' Z1 hi e e' y => ?_⟩
  obtain ⟨T, v, c, rfl, hT, rfl, h1, h2⟩ := y
  obtain ⟨d, hd, rd⟩ := r.get' h1
  obtain ⟨Z', g, q⟩ := pair_still e' hT (rd.mono e) (Rp.str (K := K) (Z := Z1) ⟨#[c]⟩)
  refine ⟨_, Z', pairsD_get hd ?_, g, q⟩
  unfold signs
  rw [List.getElem?_map, Array.getElem?_toList, h2]
  rfl
section
variable {X : Cx} {G : Gm} {B : Wish} {tg e e2 : Expr} {p pos tpos : Pos} {elts : List Expr} {kk : Nat}
def zp1S (ds : List D) (ρ : Rho) : M (List D) := match ds with
  | [.tuple xs, .str u] => if xs.length ≤ u.cps.size then .ok (pairsD xs (signs u)) ρ else .st
  | [.dict [(.bool true, .tuple xs)], .str u] => if xs.length ≤ u.cps.size then .ok (pairsD xs (signs u)) ρ else .st
  | _ => .st
def oZipS (o : O (List D)) : O (List D) := fun ρ => (o ρ).bind zp1S
theorem id_zipS {o : O (List D)} (hg : Gl X "zip") (hm : X.mg "zip" = none) (ha : QD X G B [e, e2] o)
    (hs : starEach [e, e2] X.env = (false, eval e X.env) :: starEach [e2] X.env := by rfl) (hpl : (backTo pos (starEach [e2] X.env)).any (·.1) = false := by rfl) :
    ID X G B (.Tuple elts kk tpos) (.Call (.Name "zip" p) [e, e2] [] pos) (oZipS o) :=
  pi_imp (pi_zipS hg hm ha hs hpl) fun σ H R w => run_imp (C := fun (vs : List V) H1 => ∃ a u xs, vs = [.ref a, .str u] ∧ SqT X.K H1 a xs ∧ R (ItzS X.K a u) H1) w fun vs ds ρ1 Z1 H1 S1 r1 p1 => by
    unfold zp1S at p1
    split at p1
    · rename_i xs u
      split at p1
      · rename_i hh
        replace r1 : RpAll X.K Z1 vs [.tuple xs, .str u] := r1
        cases r1 with
        | cons h1 h2 =>
          cases h2 with
          | cons h2 h3 =>
            cases h3
            cases h2
            cases h1 with
            | tup a1 a2 => exact ⟨_, _, _, rfl, SqT.of (S1.zh _ _ a1), p1 _ Z1 H1 (.refl _) S1 (walkD_zipS (SqT.of a1) a2 hh)⟩
      · exact p1.elim
    · rename_i xs u
      split at p1
      · rename_i hh
        replace r1 : RpAll X.K Z1 vs [kon xs, .str u] := r1
        cases r1 with
        | cons h1 h2 =>
          cases h2 with
          | cons h2 h3 =>
            cases h3
            cases h2
            cases h1 with
            | kon a1 a2 => exact ⟨_, _, _, rfl, sqT_mono S1.zh a1, p1 _ Z1 H1 (.refl _) S1 (walkD_zipS a1 a2 hh)⟩
      · exact p1.elim
    · exact p1.elim
end
@[simp] theorem ap_zipS (o : O (List D)) (z : Sl) (ρ : Rho) : oZipS o (z :: ρ) = (o (z :: ρ)).bind zp1S := rfl
theorem zpS_t (xs : List D) (u : Str) (ρ : Rho) : zp1S [.tuple xs, .str u] ρ = if xs.length ≤ u.cps.size then .ok (pairsD xs (signs u)) ρ else .st := rfl
theorem zpS_k (xs : List D) (u : Str) (ρ : Rho) : zp1S [.dict [(.bool true, .tuple xs)], .str u] ρ = if xs.length ≤ u.cps.size then .ok (pairsD xs (signs u)) ρ else .st := rfl
end Ow
/-! Ow48: dict comprehensions; a new dict that stays as it is -/
namespace Ow
open PySem PySem.Spec PyProof.Rows L2
def dcL (vs : List Nat) (g : D → Rho → Option Rho) (ot : O Bool) (ok ov : O D) : List D → List (Key × D) → Rho → M (List (Key × D))
  | [], acc, ρ => .ok acc ρ
  | d :: ds, acc, ρ => match g d ρ with
    | none => .st
    | some ρ1 => match ot ρ1 with
      | .ok true ρ2 => match ok ρ2 with
        | .ok k ρ3 => match ov ρ3 with
          | .ok v ρ4 => match keyOf k with
            | some kk => if acc.length < 16000000 then dcL vs g ot ok ov ds (putD acc kk v) (wipeR ρ4 vs) else .st
            | none => .st
          | _ => .st
        | _ => .st
      | .ok false ρ2 => dcL vs g ot ok ov ds acc (wipeR ρ2 vs)
      | _ => .st
def dcE (vs : List Nat) (ρ1 : Rho) (m : M (List (Key × D))) : M Rs := match m with
  | .ok ys ρ2 => .ok (.nw (.dk ys)) (restR ρ1 ρ2 vs)
  | _ => .st
def dc1 (vs : List Nat) (g : D → Rho → Option Rho) (ot : O Bool) (ok ov : O D) (ds : List D) (ρ1 : Rho) : M Rs :=
  if okW ρ1 vs = true then dcE vs ρ1 (dcL vs g ot ok ov ds [] (wipeR ρ1 vs)) else .st
def oDc (vs : List Nat) (oi : O (List D)) (g : D → Rho → Option Rho) (ot : O Bool) (ok ov : O D) : O Rs := fun ρ => (oi ρ).bind (dc1 vs g ot ok ov)
section
variable {J : It} {n : Nat} {Gd : Hp → Prop} {Y : Nat → Hp → V → Hp → Prop}
theorem dc_it (w : Walk J n Gd Y) {g : TG} {tt : TT} {tk tv : TE} {vs : List Nat} {σ : L2.St} {H1 : Hp} {L : Addr} {Qd : Hp → Prop} (Pv : Nat → Hp → Prop) (h0 : Pv 0 (upd H1 L (.dK []))) (hG : ∀ i H, i ≤ n → Pv i H → Gd H)
    (hs : ∀ i x H H', i < n → Pv i H → Y i H x H' → g x (wipe σ vs) H' fun σ2 H2 => wipe σ2 vs = wipe σ vs ∧ tt σ2 H2 fun b H3 =>
      if b = true then tk σ2 H3 fun y H4 => tv σ2 H4 fun z H5 => ∃ kvs k, y = kV k ∧ H5 L = some (.dK kvs) ∧ kvs.length < sizeLine ∧ Pv (i + 1) (upd H5 L (.dK (putK kvs k z))) else Pv (i + 1) H3) (hd : ∀ H, Pv n H → Qd H) :
    ∃ W : Nat → Nat → Hp → Prop, (∃ m, W 0 m (upd H1 L (.dK []))) ∧ ∀ i m H, W i m H →
      (J.stop i H ∧ Qd H) ∨ (J.go i H ∧ ∃ Nx : Hp → Prop, (∀ H', Nx H' → ∃ m', m' < m ∧ W (i + 1) m' H') ∧ ∀ x H', J.yld i H x H' → g x (wipe σ vs) H' fun σ2 H2 => wipe σ2 vs = wipe σ vs ∧ tt σ2 H2 fun b H3 =>
        if b = true then tk σ2 H3 fun y H4 => tv σ2 H4 fun z H5 => ∃ kvs k, y = kV k ∧ H5 L = some (.dK kvs) ∧ kvs.length < sizeLine ∧ Nx (upd H5 L (.dK (putK kvs k z))) else Nx H3) := by
  refine ⟨fun i m H => (m = n - i ∧ i ≤ n) ∧ Pv i H, ⟨n, ⟨by omega, Nat.zero_le _⟩, h0⟩, fun i m H hw => ?_⟩
  obtain ⟨⟨hm, hi⟩, p⟩ := hw
  have q := hG i H hi p
  rcases Nat.lt_or_ge i n with hlt | hge
  · exact .inr ⟨w.goes i H hlt q, Pv (i + 1), fun H' p' => ⟨n - (i + 1), by omega, ⟨rfl, hlt⟩, p'⟩, fun x H' y => hs i x H H' hlt p (w.yields i H x H' hlt q y)⟩
  · obtain rfl : i = n := Nat.le_antisymm hi hge
    exact .inl ⟨w.stops H q, hd H p⟩
end
section
variable {X : Cx} {G : Gm} {B : Wish} {kx vx tg iter c : Expr} {ifs : List Expr} {scope : Scope} {own : List (Str × Nat)} {pos spos py : Pos} {T : List Nat} {oi : O (List D)} {g : D → Rho → Option Rho} {ot : O Bool} {ok ov : O D}
theorem run_dc {K : PySem.W.Frag} {gg : TG} {tt : TT} {tk tv : TE} {vs : List Nat} {σ : L2.St} {H : Hp} {Q : VK} (hT : ∀ t ∈ T, t ∈ vs)
    (hg : ∀ G v σ H Q, gRun K G T g v σ H Q → gg v σ H Q) (ht : ∀ G σ H Q, Run K G noB BoR ot σ H Q → tt σ H Q) (hk : ∀ G σ H Q, Run K G noB (PuR K) ok σ H Q → tk σ H Q) (he : ∀ G σ H Q, Run K G noB (PuR K) ov σ H Q → tv σ H Q)
    (w : Run K G B (RsR K G) (oDc vs oi g ot ok ov) σ H Q) : tDc (fun σ H R => Run K G B (ItR K) oi σ H R) gg tt tk tv vs σ H Q := by
  unfold tDc
  refine run_imp w fun J ds ρ1 Z1 H1 S1 wd p1 => ?_
  intro L hL
  unfold dc1 at p1
  split at p1
  case isFalse => exact p1.elim
  rename_i hw
  cases hm : dcL vs g ot ok ov ds [] (wipeR ρ1 vs) with
  | st => rw [hm] at p1; exact p1.elim
  | ex x ρ2 => rw [hm] at p1; exact p1.elim
  | ok ysF ρF =>
  rw [hm] at p1
  have p2 : Post K G B (RsR K G) σ Z1 (.ok (.nw (.dk ysF)) (restR ρ1 ρF vs)) Q := p1
  obtain ⟨Gd, Y, wk, h1, h2⟩ := wd
  have zL : Z1 L = none := S1.fresh hL
  have gL : G.H0 L = none := S1.freshIn hL
  have z0L : G.Z0 L = none := none_of_same S1.zz zL
  have nS1 : NewA ρ1 σ H1 L := S1.newA hL
  have nl : ¬ G.lent L := S1.notLent nS1.1
  have hv : ∀ v ∈ vs, ∀ x, (v, x) ∉ G.pins := fun v hv x hx => by
    obtain ⟨_, c, hc⟩ := S1.pin v x hx
    have q := List.all_eq_true.mp hw v hv
    rw [hc] at q
    cases q
  have ex0 : ∀ (o : HO) (H1 : Hp), H1 L = none → ∀ b u, H1 b = some u → upd H1 L o b = some u := fun o H1 h b u ho => by
    rw [upd_ne]
    · exact ho
    · intro e; subst e; rw [h] at ho; cases ho
  have Sw : Sim K G Z1 (wipeR ρ1 vs) (wipe σ vs) (upd H1 L (.dK [])) := (S1.grow (.loose S1.zh hL (.dK []))).wipes hv
  have nSw : NewA (wipeR ρ1 vs) (wipe σ vs) (upd H1 L (.dK [])) L := (nS1.heap S1.lx (H' := upd H1 L (.dK [])) fun b o f ho => ex0 _ _ hL b o ho).wipe
  refine dc_it wk (fun i H => ∃ Z ρ acc accV, Sim K G Z ρ (wipe σ vs) H ∧ Same Z1 Z ∧ H L = some (.dK accV) ∧ KvR K Z accV acc ∧ Z L = none ∧ NewA ρ (wipe σ vs) H L ∧ dcL vs g ot ok ov (ds.drop i) acc ρ = .ok ysF ρF)
    ⟨Z1, wipeR ρ1 vs, [], [], Sw, .refl _, upd_same, .nil, zL, nSw, by rw [List.drop_zero]; exact hm⟩ (fun i H' _ ⟨Z, ρ, acc, accV, S, e, _⟩ => h1 H' (e.trans S.zh)) ?_ ?_
  · rintro i x H' H2 hi ⟨Z, ρ, acc, accV, S, e, hacc, racc, zz, nn, hlc⟩ y
    obtain ⟨d, Z', hd, gr, rx⟩ := h2 i H' x H2 Z hi e S.zh y
    have hdr : ds.drop i = d :: ds.drop (i + 1) := by
      rw [List.drop_eq_getElem_cons hi, (List.getElem?_eq_some_iff.mp hd).2]
    rw [hdr] at hlc
    unfold dcL at hlc
    have S' := S.grow gr
    have hacc' : H2 L = some (.dK accV) := gr.h _ _ hacc
    have zz' : Z' L = none := by
      cases q : Z' L with
      | none => rfl
      | some u =>
        rcases gr.n L u q with q' | q'
        · rw [zz] at q'; cases q'
        · rw [hacc] at q'; cases q'
    have nn' : NewA ρ (wipe σ vs) H2 L := nn.heap S.lx fun b o _ ho => gr.h _ _ ho
    have SG := S'.toGhost hacc' zz' nn'
    cases hg1 : g d ρ with
    | none => rw [hg1] at hlc; cases hlc
    | some ρ2 =>
    rw [hg1] at hlc
    dsimp only at hlc
    refine hg (G.ghost L (.dK accV)) _ _ _ _ ⟨Z', ρ, d, ρ2, SG, rx, hg1, fun σ2 Z2 H3 hl2 hj2 e2 S2 => ?_⟩
    have hw2 : wipe σ2 vs = wipe σ vs := by
      rw [wipe_same hl2 fun j hj => hj2 j fun m => hj (hT j m), wipe_wipe]
    refine ⟨hw2, ht (G.ghost L (.dK accV)) _ _ _ ⟨Z2, ρ2, S2, ?_⟩⟩
    cases ht1 : ot ρ2 with
    | st => rw [ht1] at hlc; cases hlc
    | ex x ρ3 => rw [ht1] at hlc; cases hlc
    | ok b ρ3 =>
    rw [ht1] at hlc
    intro b' Z3 H4 e3 S3 rb
    have rb : b' = b := rb
    subst rb
    cases b' with
    | false =>
      dsimp only at hlc
      rw [if_neg Bool.false_ne_true]
      obtain ⟨S4, h4, z4, n4⟩ := S3.ofGhost gL z0L nl
      have S5 := S4.wipes hv
      have n5 := n4.wipe (vs := vs)
      rw [hw2] at S5 n5
      have ea := gr.z.trans (e2.trans e3)
      exact ⟨Z3, wipeR ρ3 vs, acc, accV, S5, e.trans ea, h4, racc.mono ea, z4, n5, hlc⟩
    | true =>
    dsimp only at hlc
    rw [if_pos rfl]
    refine hk (G.ghost L (.dK accV)) _ _ _ ⟨Z3, ρ3, S3, ?_⟩
    cases hk1 : ok ρ3 with
    | st => rw [hk1] at hlc; cases hlc
    | ex x ρ4 => rw [hk1] at hlc; cases hlc
    | ok kd ρ4 =>
    rw [hk1] at hlc
    dsimp only at hlc
    intro kv Z4 H5 e4 S4 rk
    refine he (G.ghost L (.dK accV)) _ _ _ ⟨Z4, ρ4, S4, ?_⟩
    cases he1 : ov ρ4 with
    | st => rw [he1] at hlc; cases hlc
    | ex x ρ5 => rw [he1] at hlc; cases hlc
    | ok vd ρ5 =>
    rw [he1] at hlc
    dsimp only at hlc
    intro vv Z5 H6 e5 S5 rv
    cases hkk : keyOf kd with
    | none => rw [hkk] at hlc; cases hlc
    | some kk =>
    rw [hkk] at hlc
    dsimp only at hlc
    split at hlc
    case isFalse => cases hlc
    rename_i hlen
    have rk : Rp K Z4 kv kd := rk
    have rv : Rp K Z5 vv vd := rv
    obtain ⟨S6, h6, z6, n6⟩ := S5.ofGhost gL z0L nl
    have ea := gr.z.trans (e2.trans (e3.trans (e4.trans e5)))
    have S7 := S6.wipes hv
    have n7 := n6.wipe (vs := vs)
    rw [hw2] at S7 n7
    have hal : accV.length = acc.length := kv_length racc
    have up : ∀ b u, b ≠ L → H6 b = some u → upd H6 L (.dK (putK accV kk vv)) b = some u := fun b u hb ho => by rw [upd_ne hb]; exact ho
    refine ⟨accV, kk, keyOf_v rk hkk, h6, lim_lt (by omega), Z5, wipeR ρ5 vs, putD acc kk vd, putK accV kk vv, ?_, e.trans ea, upd_same, kv_put (racc.mono ea) kk rv, z6, n7.heap S7.lx fun b o f ho => up b o (fun q => n7.2 (q ▸ f)) ho, hlc⟩
    refine ⟨S7.zz, fun b u q => ?_, fun b u q l => ?_, S7.nw, S7.pu, fun j p c q => ?_, S7.ne, S7.pin, S7.len, S7.lx.frame (fun _ _ e => ⟨e, rfl⟩) (fun _ _ _ e => ⟨e, rfl⟩) (.refl _) fun b u f zb gn w hu => ⟨up b u (fun q => n7.2 (q ▸ f)) hu, zb, gn, w⟩⟩
    · rw [upd_ne (ne_of_none q z6)]; exact S7.zh _ _ q
    · have hb : b ≠ L := fun e' => by subst e'; rw [gL] at q; cases q
      rw [upd_ne hb]; exact S7.fr b u q l
    · obtain ⟨a', o', q', ho', r'⟩ := S7.ow j p c q
      exact ⟨a', o', q', up a' o' (fun e' => n7.1 j p c q (e' ▸ q')) ho', r'⟩
  · rintro H' ⟨Z, ρ, acc, accV, S, e, hacc, racc, zz, nn, hlc⟩
    rw [List.drop_length] at hlc
    cases hlc
    have SR := S1.rests S e hw
    refine p2 (.ref L) Z H' e SR ⟨L, .dK accV, rfl, hacc, racc, zz, gL, fun i p c hi q => ?_, fun f => ?_⟩
    · rw [restR_get ρ1 ρF i (by rw [S1.len, S.len, wipe_length])] at hi
      by_cases hj : i ∈ vs
      · rw [if_pos hj] at hi
        exact nS1.1 i p c hi q
      · rw [if_neg hj] at hi
        refine nn.1 i p c hi ?_
        rw [wipe_get, if_neg hj]
        exact q
    · obtain ⟨i, xss, a0, bs, hi, q, h3, h4⟩ := f
      rw [restR_get ρ1 ρF i (by rw [S1.len, S.len, wipe_length])] at hi
      by_cases hj : i ∈ vs
      · rw [if_pos hj] at hi
        have t := List.all_eq_true.mp hw i hj
        rw [hi] at t
        cases t
      · rw [if_neg hj] at hi
        exact nn.2 ⟨i, xss, a0, bs, hi, by rw [wipe_get, if_neg hj]; exact q, h3, h4⟩
theorem rd_dc (hc : X.calm = true) (hN : X.N.Nodup) (hT : ∀ t ∈ T, t ∈ own.map (·.2)) (hi : ID X G B tg iter oi) (okb : BlkOk X.N X.env.scope scope own)
    (hg : ∀ (s : Shared) (H : Hp) (C : Addr) (cl : List (Str × Addr)) (fp : List Addr) (G : Gm), GD (X.blk s H scope (compEnvC scope cl C X.env) fp) G tg T g)
    (ht : ∀ (s : Shared) (H : Hp) (C : Addr) (cl : List (Str × Addr)) (fp : List Addr) (G : Gm), TSD (X.blk s H scope (compEnvC scope cl C X.env) fp) G noB ifs ot)
    (hk : ∀ (s : Shared) (H : Hp) (C : Addr) (cl : List (Str × Addr)) (fp : List Addr) (G : Gm), PD (X.blk s H scope (compEnvC scope cl C X.env) fp) G noB kx ok)
    (he : ∀ (s : Shared) (H : Hp) (C : Addr) (cl : List (Str × Addr)) (fp : List Addr) (G : Gm), PD (X.blk s H scope (compEnvC scope cl C X.env) fp) G noB vx ov)
    (hs : ∀ x, foldedSetIterable iter X.env x = pure x := by intro _; rfl) : RD X G B (.DictComp kx vx [⟨tg, iter, ifs, 0⟩] scope pos) (oDc (own.map (·.2)) oi g ot ok ov) :=
  pe_imp (pe_dc hc hN hi okb (g := fun v σ H Q => ∃ G, gRun X.K G T g v σ H Q) (tt := fun σ H Q => ∃ G, Run X.K G noB BoR ot σ H Q) (tk := fun σ H Q => ∃ G, Run X.K G noB (PuR X.K) ok σ H Q) (tv := fun σ H Q => ∃ G, Run X.K G noB (PuR X.K) ov σ H Q)
    (fun s H C cl fp => ⟨fun pins s' σ H' v u Q I r ⟨G', w⟩ => (hg s H C cl fp G').run pins s' σ H' v u Q I r w⟩) (fun s H C cl fp => ⟨fun pins s' σ H' Q I ⟨G', w⟩ => (ht s H C cl fp G').run pins s' σ H' Q I w⟩)
    (fun s H C cl fp => ⟨fun pins s' σ H' Q I ⟨G', w⟩ => (hk s H C cl fp G').run pins s' σ H' Q I w⟩)
    (fun s H C cl fp => ⟨fun pins s' σ H' Q I ⟨G', w⟩ => (he s H C cl fp G').run pins s' σ H' Q I w⟩) hs) fun σ H Q w => run_dc hT (fun G _ _ _ _ w => ⟨G, w⟩) (fun G _ _ _ w => ⟨G, w⟩) (fun G _ _ _ w => ⟨G, w⟩) (fun G _ _ _ w => ⟨G, w⟩) w
end
end Ow
/-! Ow49: still dicts: made of new ones, looked at -/
namespace Ow
open PySem PySem.Spec PyProof.Rows L2
def kvs2 (kvs : List (Key × D)) : List (D × D) := kvs.map fun p => (keyD p.1, p.2)
def stD (kvs : List (Key × D)) : D := .dict ((.bool false, .none) :: kvs2 kvs)
theorem rpKvs_of {K : PySem.W.Frag} {Z : Hp} : ∀ {vs : List (Key × V)} {kvs : List (Key × D)}, KvR K Z vs kvs → RpKvs K Z vs (kvs2 kvs)
  | _, _, .nil => .nil
  | (k, v) :: _, (k', d) :: _, .cons h r => by
    obtain ⟨e, h⟩ := h
    have e : k = k' := e
    subst e
    exact .cons rfl h (rpKvs_of r)
section
variable {K : PySem.W.Frag} {G : Gm} {Z H : Hp} {ρ : Rho} {σ : L2.St}
/-- a new thing that nobody changes any more -/
theorem Sim.freezeNewO (S : Sim K G Z ρ σ H) {p : Addr} {o : HO} (h : H p = some o) (z : Z p = none) (n : G.H0 p = none) (hn : NewA ρ σ H p) : Sim K G (upd Z p o) ρ σ H := by
  have zn : ∀ b, b ≠ p → upd Z p o b = Z b := fun b hb => upd_ne hb
  refine ⟨S.zz.trans (same_upd z _), fun b u q => ?_, S.fr, fun b u q => ?_, fun i d e => ?_, fun i q c e => ?_, S.ne, S.pin, S.len, S.lx.frame (fun _ _ e => ⟨e, rfl⟩) (fun _ _ _ e => ⟨e, rfl⟩) (same_upd z _) fun b u f z' gn w ho => ⟨ho, ?_, gn, w⟩⟩
  · by_cases hb : b = p
    · subst hb; rw [upd_same] at q; rw [← q]; exact h
    · rw [zn b hb] at q; exact S.zh _ _ q
  · by_cases hb : b = p
    · subst hb; exact .inr n
    · rw [zn b hb] at q; exact S.nw _ _ q
  · obtain ⟨v, q, r⟩ := S.pu i d e
    exact ⟨v, q, r.mono (same_upd z _)⟩
  · obtain ⟨a, u, q', ho, r, z', l⟩ := S.ow i q c e
    refine ⟨a, u, q', ho, r.mono (same_upd z _), ?_, l⟩
    rw [zn a fun e' => hn.1 i q c e (e' ▸ q')]
    exact z'
  · rw [zn b fun e => hn.2 (e ▸ f)]
    exact z'
end
def frzK1 (r : Rs) (ρ : Rho) : M D := match r with
  | .nw (.dk kvs) => .ok (stD kvs) ρ
  | _ => .st
def oFrzK (o : O Rs) : O D := fun ρ => (o ρ).bind frzK1
/-- a dict by its keys -/
def fIxS : D → D → Option Rs
  | .dict ((.bool false, .none) :: ds), k => match keyOf k with
    | some kk => (lookK ds kk).map .pu
    | none => none
  | _, _ => none
def fInS (neg : Bool) : D → D → Option Rs
  | k, .dict ((.bool false, .none) :: ds) => match keyOf k with
    | some kk => some (.pu (.bool (if neg then !(lookK ds kk).isSome else (lookK ds kk).isSome)))
    | none => none
  | _, _ => none
theorem lookK_n {K : PySem.W.Frag} {Z : Hp} {k : Key} : ∀ {kvs : List (Key × V)} {ds : List (D × D)}, RpKvs K Z kvs ds → lookK ds k = none → valV kvs k = none
  | _, _, .nil, _ => rfl
  | (k', v) :: kvs, (e, d') :: ds, .cons he h1 h2, h => by
    unfold lookK at h
    dsimp only at h
    rw [he, keyIs_D] at h
    by_cases hk : k' = k
    · rw [if_pos (by simpa using hk)] at h; cases h
    · rw [if_neg (by simpa using hk)] at h
      rw [valV_neg (p := (k', v)) hk]
      exact lookK_n h2 h
theorem lookK_s {K : PySem.W.Frag} {Z : Hp} {k : Key} {kvs : List (Key × V)} {ds : List (D × D)} (r : RpKvs K Z kvs ds) : (valV kvs k).isSome = (lookK ds k).isSome := by
  cases h : lookK ds k with
  | none => rw [lookK_n r h]; rfl
  | some d =>
    obtain ⟨v, e, _⟩ := lookK_v r h
    rw [e]
    rfl
section
variable {X : Cx} {G : Gm} {B : Wish} {a b e : Expr} {p pos : Pos} {oa ob : O Va}
theorem pd_rdK {o : O Rs} (h : RD X G B e o) : PD X G B e (oFrzK o) := pe_imp h fun σ H Q w => run_imp w fun x r ρ1 Z1 H1 S1 q p1 => by
  cases r with
  | pu d => exact p1.elim
  | nw c =>
    cases c with
    | dk kvs =>
      obtain ⟨a, ho, ev, h1, cr, z, n, hn⟩ := q
      cases ho with
      | dK vs =>
        have cr : KvR X.K Z1 vs kvs := cr
        subst ev
        exact p1 _ (upd Z1 a (.dK vs)) H1 (same_upd z _) (S1.freezeNewO h1 z n hn) (.dct upd_same (rpKvs_of (KvR.mono cr (same_upd z _))))
      | _ => exact cr.elim
    | li ds => exact p1.elim
    | dt kvs => exact p1.elim
theorem rd_ixS {k : Nat} (hr : Room k X.A) (ha : ED X G B a oa) (hb : ED X G B b ob) (hs' : NoSl b := by exact fun _ _ => rfl) : RD X G B (.Subscript a b pos) (oBin fIxS oa ob) := by
  refine pe_imp (pe_dget (hu_of hr) ha hb hs') fun σ H Q w => ?_
  refine run_bin (r := fun x y H Q => ∃ ad v, x = .ref ad ∧ DGet H ad y (some v) ∧ Q v H) ?_ w
  intro x y dx dy R Z H Q e rx ry hf k
  unfold fIxS at hf
  split at hf
  · rename_i ds
    split at hf
    · rename_i kk hkk
      cases q : lookK ds kk with
      | none => rw [q] at hf; cases hf
      | some d =>
        rw [q] at hf
        cases hf
        obtain ⟨ad, kvs, rfl, h1, h2⟩ := rx.dct e
        obtain ⟨v, h3, h4⟩ := lookK_v h2 q
        have ry' : Rp X.K Z y dy := ry.keptD fun ds e => by subst e; cases hkk
        rw [keyOf_v ry' hkk]
        exact ⟨ad, v, rfl, by rw [← h3]; exact DGet.k h1, k v Z H (.refl e) h4⟩
    · cases hf
  · cases hf
theorem binS_inS {K : PySem.W.Frag} : BinS K (fun y x H Q => ∃ ad o, x = .ref ad ∧ DGet H ad y o ∧ Q (.bl o.isSome) H) (fInS false) := by
  intro y x dx dy R Z H Q e ry rx hf k
  unfold fInS at hf
  split at hf
  · split at hf
    · rename_i ds kk hkk
      cases hf
      obtain ⟨ad, kvs, rfl, h1, h2⟩ := rx.dct e
      have ry' : Rp K Z y dx := ry.keptD fun ds e => by subst e; cases hkk
      rw [keyOf_v ry' hkk]
      refine ⟨ad, _, rfl, DGet.k h1, ?_⟩
      rw [lookK_s h2]
      exact k _ Z H (.refl e) (.bl _)
    · cases hf
  · cases hf
theorem binS_notinS {K : PySem.W.Frag} : BinS K (fun y x H Q => ∃ ad o, x = .ref ad ∧ DGet H ad y o ∧ Q (.bl (!o.isSome)) H) (fInS true) := by
  intro y x dx dy R Z H Q e ry rx hf k
  unfold fInS at hf
  split at hf
  · split at hf
    · rename_i ds kk hkk
      cases hf
      obtain ⟨ad, kvs, rfl, h1, h2⟩ := rx.dct e
      have ry' : Rp K Z y dx := ry.keptD fun ds e => by subst e; cases hkk
      rw [keyOf_v ry' hkk]
      refine ⟨ad, _, rfl, DGet.k h1, ?_⟩
      rw [lookK_s h2]
      exact k _ Z H (.refl e) (.bl _)
    · cases hf
  · cases hf
theorem rd_inS {k : Nat} (hr : Room k X.A) (ha : ED X G B a oa) (hb : ED X G B b ob) (hm : behindInMarks .In b = false := by first | exact nomark _ | rfl) : RD X G B (.Compare a [.In] [b] pos) (oBin (fInS false) oa ob) :=
  pe_imp (pe_cmp (pc_din (hu_of hr) ha hb) hm) fun _ _ _ w => run_bin binS_inS w
theorem rd_notinS {k : Nat} (hr : Room k X.A) (ha : ED X G B a oa) (hb : ED X G B b ob) (hm : behindInMarks .NotIn b = false := by first | exact nomark _ | rfl) : RD X G B (.Compare a [.NotIn] [b] pos) (oBin (fInS true) oa ob) :=
  pe_imp (pe_cmp (pc_dnotin (hu_of hr) ha hb) hm) fun _ _ _ w => run_bin binS_notinS w
theorem td_inS {k : Nat} (hr : Room k X.A) (ha : ED X G B a oa) (hb : ED X G B b ob) (hm : behindInMarks .In b = false := by first | exact nomark _ | rfl) : TD X G B (.Compare a [.In] [b] pos) (oTst (oBin (fInS false) oa ob)) :=
  pt_imp (pt_cmp (pc_din (hu_of hr) ha hb) hm) fun _ _ _ w => run_bin binS_inS (run_tst w)
theorem td_notinS {k : Nat} (hr : Room k X.A) (ha : ED X G B a oa) (hb : ED X G B b ob) (hm : behindInMarks .NotIn b = false := by first | exact nomark _ | rfl) : TD X G B (.Compare a [.NotIn] [b] pos) (oTst (oBin (fInS true) oa ob)) :=
  pt_imp (pt_cmp (pc_dnotin (hu_of hr) ha hb) hm) fun _ _ _ w => run_bin binS_notinS (run_tst w)
end
/-! ### recursion: a call that is no more -/
theorem fnOk_st {P : Program} {w : World} {K : PySem.W.Frag} {mg : Str → Option Value} {base : Heap} {CX : CXT} {k : Nat} {f : Addr} {fd : FuncData} {ps : List Str} {n : Nat} : FnOk P w K mg base CX k f fd ps (spD K n fun _ => .st) :=
  ⟨fun vs H Q E h => by obtain ⟨_, _, _, _, _, h⟩ := h; exact h.elim, fun A outer s H args us vs Q E _ _ _ _ h => by obtain ⟨_, _, _, _, _, h⟩ := h; exact h.elim⟩
/-! ### on a written state -/
section
variable (z : Sl) (ρ : Rho)
@[simp] theorem ap_dc (vs : List Nat) (oi : O (List D)) (g : D → Rho → Option Rho) (ot : O Bool) (ok ov : O D) : oDc vs oi g ot ok ov (z :: ρ) = (oi (z :: ρ)).bind (dc1 vs g ot ok ov) := rfl
theorem dc1_eq (vs : List Nat) (g : D → Rho → Option Rho) (ot : O Bool) (ok ov : O D) (ds : List D) : dc1 vs g ot ok ov ds ρ = if okW ρ vs = true then dcE vs ρ (dcL vs g ot ok ov ds [] (wipeR ρ vs)) else .st := rfl
@[simp] theorem ap_frzK (o : O Rs) : oFrzK o (z :: ρ) = (o (z :: ρ)).bind frzK1 := rfl
@[simp] theorem frzK1_dk (kvs : List (Key × D)) : frzK1 (.nw (.dk kvs)) ρ = .ok (stD kvs) ρ := rfl
end
end Ow
/-! Ow50: any(list) where an exception is handled; bit_length -/
namespace HotA
open PySem PySem.Spec PyProof.Rows L2 L2H HotX
section
variable {prog : Program} {w : World} {A : Around} {E : Value → Shared → Prop} {s : Shared}
/-- a list's iterator comes to its end while an exception is handled -/
theorem list_end {it l x1 : Addr} {i : Nat} {items : Array Value} {Q : Option Value → Shared → Prop} (hot : HotAt A x1 s.heap) (hne : x1 ≠ it) (hit : s.heap.IsListIter it l i) (hl : s.heap.IsList l items) (hx : items[i]? = none)
    (hQ : ∀ h', Heap.ExtBut it s.heap h' → Q none { s with heap := h' }) : wpAny (model prog w) A (pyNext (.ref it)) Q E s := by
  obtain ⟨hh, o1, vs1, h1, d1, c1⟩ := hot
  have hT := hit.typeIs
  obtain ⟨o, ho, hc, hd⟩ := hit
  obtain ⟨ol, hol, _, nl, hdl⟩ := hl
  have body : ∀ {A' : Around} {Q' : Fin → Shared → Prop} {E' : Value → Shared → Prop}, A'.handled = some (.ref x1) →
      (∀ h' e, Heap.ExtBut it s.heap h' → (∃ oe, h'.get? e = some oe ∧ oe.cls = .type "StopIteration") → E' (.ref e) { s with heap := h' }) →
      wpAny (model prog w) A' (Builtin.«list_iterator.__next__» ⟨[.ref it], []⟩) Q' E' s := fun {A' Q' E'} hA hE => by
    show wpAny _ _ (field (.ref it) 0 >>= _) _ _ s
    refine wpAny_bind (wpAny_field ho hd (x := .ref l) rfl ?_)
    show wpAny _ _ (if (Value.ref l == Value.none) = true then _ else _) _ _ s
    rw [if_neg (by intro q; cases q)]
    show wpAny _ _ (field (.ref it) 1 >>= _) _ _ s
    refine wpAny_bind (wpAny_field ho hd (x := .int i 0) rfl ?_)
    show wpAny _ _ (seqItems? (.ref l) >>= _) _ _ s
    refine wpAny_bind (wpAny_seqItems hol hdl ?_)
    rw [Int.toNat_natCast]
    simp only [hx]
    refine wpAny_bind (wpAny_rule (wpAny_bind (wpAny_setField ho hd (by simp) ?_)))
    show wpAny _ _ (newExc (.type "StopIteration") [] >>= _) _ _ _
    refine wpAny_bind ?_
    simp only [newExc, newTuple]
    refine wpAny_bind (wpAny_newObj_type ?_ (by size_fits))
    refine wpAny_bind (m := firstArgMember _ _) (wpAny_of_eq (a := Value.none) (by first | rfl | (simp only [firstArgMember]; rfl)) ?_)
    refine wpAny_newObj_type ?_ (by size_fits)
    have k1 := (Heap.get?_update_other s.heap (Obj.mapFields (·.setIfInBounds 0 .none)) hne.symm).trans h1
    refine raiseNew_hot ⟨hA, o1, vs1, Heap.get?_push_of_some _ (Heap.get?_push_of_some _ k1), d1, c1⟩ (Nat.ne_of_lt (Heap.lt_size (Heap.get?_push_of_some _ k1))) (Heap.get?_push_size _ rfl) rfl (by first | (simp; done) | (simp; omega) | (simp only [Array.size_append]; simp; omega)) ?_
    refine hE _ _ (fun b u hb e => ?_) ⟨_, Heap.get?_update_self _ (Heap.get?_push_size _ rfl) rfl, rfl⟩
    have k2 := (Heap.get?_update_other s.heap (Obj.mapFields (·.setIfInBounds 0 .none)) (Ne.symm hb)).trans e
    rw [Heap.get?_update_other _ _ (Nat.ne_of_gt (Heap.lt_size (Heap.get?_push_of_some _ k2)))]
    exact Heap.get?_push_of_some _ (Heap.get?_push_of_some _ k2)
  unfold pyNext
  refine wpAny_bind (wpAny_attempt (wpAny_callSpecial?_slot (name := Str.ofString "__next__") hT slot_listiter_next
    (wpAny_call_entry slot_listiter_next hT entry_listiter_next (body hh fun h' e hk he => ?_) (args_listiter_next _))))
  obtain ⟨oe, he, hce⟩ := he
  exact wpAny_bind (wpAny_isInstance (T := "StopIteration") (b := true) ⟨oe, he, hce⟩ isSubtype_stop (wpAny_pure (hQ _ hk)))
/-- so a walk over a list -/
theorem walks {A : Around} (I ax x1 : Addr) (hne : ax ≠ I) (hx : x1 ≠ I) (items : Array Value) :
    Walks prog w A I [I, ax, x1] [I] items.size (fun i v => items[i]? = some v) (fun i h => (h.IsListIter I ax i ∧ h.IsList ax items) ∧ HotAt A x1 h) where
  sub := fun b hb => by simp at hb; simp [hb]
  frame := fun _ _ _ q k => ⟨⟨q.1.1.at fun o e => k I (by simp) o e, q.1.2.at fun o e => k ax (by simp) o e⟩, q.2.1, let ⟨o, vs, h1, r⟩ := q.2.2; ⟨o, vs, k x1 (by simp) o h1, r⟩⟩
  item := fun i s Q E hi q hQ => by
    refine wpAny_pyNext_list_item q.1.1 q.1.2 (x := items[i]) (by simp [hi]) fun h' hit' hs' => ?_
    obtain ⟨hh, o, vs, h1, r⟩ := q.2
    exact hQ _ h' s.toks (by simp [hi]) ⟨⟨hit', q.1.2.extBut hs'.extBut hne⟩, hh, o, vs, hs'.extBut _ _ hx h1, r⟩ fun b o hb e => hs'.extBut b o (fun h => hb (by simp [h])) e
  done := fun s Q E q hQ => list_end q.2 hx q.1.1 q.1.2 (by simp) fun h' he' => hQ h' s.toks fun b o hb e => he' b o (fun h => hb (by simp [h])) e
  self := fun _ _ _ _ q hQ => wpAny_pyIter_listiter q.1.1 hQ
end
section
variable {X : Cx}
theorem cr_any (hc : HotC X) : CallR X (.builtin "any") (rAny X.K) := by
  intro pins s σ H vs us Q I r h
  obtain ⟨a, bs, rfl, hs, q⟩ := h
  obtain ⟨its, rv, hl, _⟩ := I.list hs
  rw [Vals.ref1 r]
  have hb := rv.bls
  obtain ⟨x1, hot⟩ := hc.at I
  have hx1 : x1 ≠ s.heap.objs.size := by
    obtain ⟨_, o, vs, e, _⟩ := hot
    exact Nat.ne_of_lt (Heap.lt_size e)
  refine call_any_walk (iter_any hl.isList fun s₂ e2 st hne => ?_)
  subst e2
  refine ⟨_, _, _, _, _, _, _, rfl, walks (A := X.A.in1) _ a x1 hne hx1 its.toArray, ⟨st, hot.1, ?_⟩, truth_bools hb, fun h' tk hk => ?_⟩
  · obtain ⟨_, o, vs, e, r⟩ := hot
    exact ⟨o, vs, Heap.get?_push_of_some _ e, r⟩
  refine ⟨.bl _, H, I.kept fun b o eo => hk b o (fun hmem => ?_) (Heap.get?_push_of_some _ eo), ?_, q⟩
  · have e1 : b = s.heap.objs.size := by simpa using hmem
    exact absurd (e1 ▸ Heap.lt_size eo) (Nat.lt_irrefl _)
  · show Value.bool _ = Value.bool _
    rw [← L2.any_range, hb, List.size_toArray, List.length_map]
end
end HotA
namespace Ow
open PySem PySem.Spec PyProof.Rows L2
section
variable {X : Cx} {G : Gm} {B : Wish} {e : Expr} {es : List Expr} {p pos : Pos} {oas : O (List Va)}
/-- a suite bears its exception, whose own context is None -/
theorem hotC_suite {cls : Value} {d : Option Addr} {a : Addr} {oe : Obj} {pn : List (Addr × Obj)} (hz : L2N.Zn cls d oe) (hv : ∃ vs, oe.data = .fields vs) : L2H.HotC (X.suite a ((a, oe) :: pn)) := by
  obtain ⟨vs, hd⟩ := hv
  exact ⟨(a, oe), ⟨rfl, vs, hd, hz.2.2 vs hd⟩, List.mem_cons_self⟩
theorem zb_anyH (hc : L2H.HotC X) (hg : Gl X "any") (hm : X.mg "any" = none) (ha : AD X G B (e :: es) oas) (he : starEach (e :: es) X.env = (false, eval e X.env) :: starEach es X.env := by rfl) (hpl : (backTo pos (starEach es X.env)).any (·.1) = false := by rfl) : RD X G B (.Call (.Name "any" p) (e :: es) [] pos) (oCB fAny oas) :=
  rd_callB (HotA.cr_any hc) callS_any hg hm boot_any ha (by decide) (by decide) he hpl
def oBits (o : O D) : O D := fun ρ => (o ρ).bind fun d ρ1 => match d with
  | .int i => .ok (.int (Builtin.Int.intBits i : Nat)) ρ1
  | _ => .st
theorem pd_bits {o : O D} {apos pos : Pos} (he : PD X G B e o) (hbase : attributeBase e "bit_length" X.env (eval e X.env) = eval e X.env := by rfl) (hline : (apos.endLine == pos.line) = true := by rfl) :
    PD X G B (.Call (.Attribute e "bit_length" apos) [] [] pos) (oBits o) :=
  pe_imp (pe_bits he hbase hline) fun σ H Q w => run_imp w fun v d ρ1 Z1 H1 S1 r p1 => by
    try dsimp only at p1
    split at p1
    · rename_i i
      have r : Rp X.K Z1 v (.int i) := r
      cases r
      exact ⟨i, rfl, p1 _ Z1 H1 (.refl _) S1 (.int _)⟩
    · exact p1.elim
end
@[simp] theorem ap_bits (o : O D) (z : Sl) (ρ : Rho) : oBits o (z :: ρ) = (o (z :: ρ)).bind fun d ρ1 => match d with
  | .int i => .ok (.int (Builtin.Int.intBits i : Nat)) ρ1
  | _ => .st := rfl
end Ow
namespace K05
open PySem PySem.Spec PyProof.Rows L2 Ow
def top (i : Nat) : Stmt := PySem.Challenge.pw_wiredossier_k05_sizes.main.body.getD i (.Pass ⟨0, 0, 0, 0⟩)
abbrev FnP (K : PySem.W.Frag) (x : Str) (st : Stmt) (f : Addr) (fd : FuncData) : Prop := FunD K x x (defArgs st) (defBody st) (defScope st) [] [] f fd
structure Mg (K : PySem.W.Frag) (mg : Str → Option Value) : Prop where
  f_abs : mg "abs" = none
  f_any : mg "any" = none
  f_bool : mg "bool" = none
  f_int : mg "int" = none
  f_isinstance : mg "isinstance" = none
  f_len : mg "len" = none
  f_list : mg "list" = none
  f_max : mg "max" = none
  f_range : mg "range" = none
  f_tuple : mg "tuple" = none
def kitL : Kit := [("Unknown", ["Unknown", "DesignError", "FlowError", "ValueError", "Exception", "BaseException", "object"])]
abbrev csL : List Str := kitL.map (·.1)
abbrev fsL : List Str := ["name", "told", "word"]
abbrev tsL : List Str := ["BadNumber", "DesignError", "LimitError", "Missing", "TextError", "Twice", "Unknown"]
abbrev bsL : List String := []
abbrev esL : List Str := ["FlowError"]
def ini_FlowError : IniD := ⟨"FlowError", "FlowError.__init__", defArgs (initOf (top 1) 0), defBody (initOf (top 1) 0), defScope (initOf (top 1) 0)⟩
def ini_Unknown : IniD := ⟨"Unknown", "Unknown.__init__", defArgs (initOf (top 5) 0), defBody (initOf (top 5) 0), defScope (initOf (top 5) 0)⟩
structure Er (P : Program) (K : PySem.W.Frag) (mg : Str → Option Value) : Prop where
  e_Unknown : ErrT P K mg "Unknown" "Unknown" "name" (He.ga K "Unknown")
  c_BadNumber : ClG K mg "BadNumber"
  c_DesignError : ClG K mg "DesignError"
  c_FlowError : ClG K mg "FlowError"
  c_LimitError : ClG K mg "LimitError"
  c_Missing : ClG K mg "Missing"
  c_TextError : ClG K mg "TextError"
  c_Twice : ClG K mg "Twice"
  c_Unknown : ClG K mg "Unknown"
  sf : SuF K kitL fsL tsL bsL esL
theorem cs_Unknown : ("Unknown" : Str) ∈ csL := by decide
theorem kit_Unknown_BadNumber : kitT kitL "Unknown" "BadNumber" = some false := by decide
theorem kit_Unknown_DesignError : kitT kitL "Unknown" "DesignError" = some true := by decide
theorem kit_Unknown_LimitError : kitT kitL "Unknown" "LimitError" = some false := by decide
theorem kit_Unknown_Missing : kitT kitL "Unknown" "Missing" = some false := by decide
theorem kit_Unknown_TextError : kitT kitL "Unknown" "TextError" = some false := by decide
theorem kit_Unknown_Twice : kitT kitL "Unknown" "Twice" = some false := by decide
theorem kit_Unknown_Unknown : kitT kitL "Unknown" "Unknown" = some true := by decide
/-! value_of: 0 size, 1 table, 2 left, 3 right -/
abbrev s_value_of : Stmt := top 10
abbrev N_value_of : List Str := ["size", "table", "left", "right"]
theorem sc_value_of : FnScope ["size", "table", "left", "right"] ["size", "table"] (defScope s_value_of) := ⟨rfl, rfl, rfl, by decide +kernel, rfl, by decide +kernel, by decide +kernel⟩
noncomputable def b_value_of (gr : Fn) : Os := (oSeq (oIfS (oTst (oBin fEq (oPu (oFrz (oBin fIx (oVar 0) (oPu (oC (.int 0)))))) (oPu (oC (.str "num")))))
 (oRet (oBin fIx (oVar 0) (oPu (oC (.int 1)))))
 oNext)
 (oSeq (oIfS (oTst (oBin fEq (oPu (oFrz (oBin fIx (oVar 0) (oPu (oC (.int 0)))))) (oPu (oC (.str "name")))))
 (oSeq (oIfS (oTst (oBin (fInS true) (oPu (oFrz (oBin fIx (oVar 0) (oPu (oC (.int 1)))))) (oVar 1)))
 (oRaise "Unknown" "Unknown" "name" (oFrz (oBin fIx (oVar 0) (oPu (oC (.int 1))))))
 oNext)
 (oRet (oBin fIxS (oVar 1) (oPu (oFrz (oBin fIx (oVar 0) (oPu (oC (.int 1)))))))))
 oNext)
 (oSeq (oSet 2 (oCall gr (oCons (oPu (oFrz (oBin fIx (oVar 0) (oPu (oC (.int 1)))))) (oCons (oPu (oKeep (oVar 1))) oNil))))
 (oSeq (oSet 3 (oCall gr (oCons (oPu (oFrz (oBin fIx (oVar 0) (oPu (oC (.int 2)))))) (oCons (oPu (oKeep (oVar 1))) oNil))))
 (oSeq (oIfS (oTst (oBin fEq (oPu (oFrz (oBin fIx (oVar 0) (oPu (oC (.int 0)))))) (oPu (oC (.str "plus")))))
 (oRet (oBin fAdd (oVar 2) (oVar 3)))
 oNext)
 (oRet (oBin fMulY (oVar 2) (oVar 3))))))))
noncomputable def gn_value_of : Nat → Fn
  | 0 => fun _ => .st
  | n + 1 => fnOfX 4 (b_value_of (gn_value_of n))
noncomputable def g_value_of : Fn := gn_value_of 14
theorem okn_value_of {P : Program} {w : World} {K : PySem.W.Frag} {mg : Str → Option Value} {base : Heap} {f : Addr} {fd : FuncData} (M : Mg K mg) (F : FnP K "value_of" s_value_of f fd) (Q : Er P K mg) (n : Nat) (gr : Fn) (c_rec : CalX P w K mg base (2 + n) "value_of" ["size", "table"] gr) : FnOk P w K mg base (L2N.CX P w) (2 + n + 1) f fd ["size", "table"] (spD K 2 (fnOfX 4 (b_value_of gr))) :=
  fn_okX F sc_value_of (by decide) (fun cdv A outer s H E hr G =>
  (bd_cons (sd_if (td_ck (ck_eq hr) (ed_pd (pd_rd (rd_ix (ed_var 0) (ed_pd pd_int)))) (ed_pd pd_str))
 (bd_one (sd_ret (rd_ix (ed_var 0) (ed_pd pd_int))))
 bd_nil)
 (bd_cons (sd_if (td_ck (ck_eq hr) (ed_pd (pd_rd (rd_ix (ed_var 0) (ed_pd pd_int)))) (ed_pd pd_str))
 (bd_cons (sd_if (td_notinS hr (ed_pd (pd_rd (rd_ix (ed_var 0) (ed_pd pd_int)))) (ed_var 1))
 (bd_one (sd_raise (k := 0) Q.e_Unknown rfl (takesN_of rfl rfl rfl rfl) (hr.mono (by omega)) (pd_rd (rd_ix (ed_var 0) (ed_pd pd_int)))))
 bd_nil)
 (bd_one (sd_ret (rd_ixS hr (ed_var 1) (ed_pd (pd_rd (rd_ix (ed_var 0) (ed_pd pd_int))))))))
 bd_nil)
 (bd_cons (sd_set 2 (rd_calX c_rec hr (by omega) rfl (takesN_of rfl rfl rfl rfl) (ad_cons (ed_pd (pd_rd (rd_ix (ed_var 0) (ed_pd pd_int)))) (ad_cons (ed_pd (pd_ed (ed_var 1))) ad_nil)) (many_cons (many_cons many_nil))) sc_value_of.nd)
 (bd_cons (sd_set 3 (rd_calX c_rec hr (by omega) rfl (takesN_of rfl rfl rfl rfl) (ad_cons (ed_pd (pd_rd (rd_ix (ed_var 0) (ed_pd pd_int)))) (ad_cons (ed_pd (pd_ed (ed_var 1))) ad_nil)) (many_cons (many_cons many_nil))) sc_value_of.nd)
 (bd_cons (sd_if (td_ck (ck_eq hr) (ed_pd (pd_rd (rd_ix (ed_var 0) (ed_pd pd_int)))) (ed_pd pd_str))
 (bd_one (sd_ret (rd_add (ed_var 2) (ed_var 3))))
 bd_nil)
 (bd_one (sd_ret (rd_mulY (ed_var 2) (ed_var 3))))))))))
theorem oka_value_of {P : Program} {w : World} {K : PySem.W.Frag} {mg : Str → Option Value} {base : Heap} {f : Addr} {fd : FuncData} (M : Mg K mg) (F : FnP K "value_of" s_value_of f fd) (Q : Er P K mg) (e : mg "value_of" = some (.ref f)) : ∀ n, FnOk P w K mg base (L2N.CX P w) (2 + n) f fd ["size", "table"] (spD K 2 (gn_value_of n))
  | 0 => fnOk_st
  | n + 1 => okn_value_of M F Q n (gn_value_of n) (CalX.of (oka_value_of M F Q e n) e F fun _ _ _ _ _ _ us hl => match us, hl with | [_, _], _ => rfl)
/-! size_value: 0 size, 1 numbers, 2 name, 3 number -/
abbrev s_size_value : Stmt := top 11
abbrev N_size_value : List Str := ["size", "numbers", "name", "number"]
theorem sc_size_value : FnScope ["size", "numbers", "name", "number"] ["size", "numbers"] (defScope s_size_value) := ⟨rfl, rfl, rfl, by decide +kernel, rfl, by decide +kernel, by decide +kernel⟩
noncomputable def K1_size_value : O D := (oKeep (oVar 2))
noncomputable def V1_size_value : O D := (oKeep (oVar 3))
noncomputable def b_size_value : Os := (oRet (oCall g_value_of (oCons (oPu (oKeep (oVar 0))) (oCons (oPu (oFrzK (oDc [2, 3] (oItm (oVar 1)) (gTp 2 (gCn (gNm 2) (gCn (gNm 3) gNl))) oYes K1_size_value V1_size_value))) oNil))))
noncomputable def g_size_value : Fn := fnOfX 4 b_size_value
theorem ok_size_value {P : Program} {w : World} {K : PySem.W.Frag} {mg : Str → Option Value} {base : Heap} {f : Addr} {fd : FuncData} (M : Mg K mg) (F : FnP K "size_value" s_size_value f fd) (c_value_of : CalX P w K mg base 16 "value_of" ["size", "table"] g_value_of) : FnOk P w K mg base (L2N.CX P w) 17 f fd ["size", "numbers"] (spD K 2 g_size_value) :=
  fn_okX F sc_size_value (by decide) (fun cdv A outer s H E hr G =>
  (bd_one (sd_ret (rd_calX c_value_of hr (by decide) rfl (takesN_of rfl rfl rfl rfl) (ad_cons (ed_pd (pd_ed (ed_var 0))) (ad_cons (ed_pd (pd_rdK (rd_dc (own := [("name", 2), ("number", 3)]) (T := ([2] ++ ([3] ++ []))) rfl sc_size_value.nd (by decide) (id_seq (ed_var 1)) (blkOk_by (N := N_size_value) (sc := defScope s_size_value) (by decide +kernel)) (fun _ _ _ _ _ _ => (gd_tup rfl (gds_cons (gd_name 2 sc_size_value.nd) (gds_cons (gd_name 3 sc_size_value.nd) gds_nil)))) (fun _ _ _ _ _ _ => tsd_nil) (fun _ _ _ _ _ _ => (pd_ed (ed_var 2))) (fun _ _ _ _ _ _ => (pd_ed (ed_var 3)))))) ad_nil)) (many_cons (many_cons many_nil))))))
/-! address_width: 0 count, 1 width -/
abbrev s_address_width : Stmt := top 12
abbrev N_address_width : List Str := ["count", "width"]
theorem sc_address_width : FnScope ["count", "width"] ["count"] (defScope s_address_width) := ⟨rfl, rfl, rfl, by decide +kernel, rfl, by decide +kernel, by decide +kernel⟩
noncomputable def W1_address_width : O Bool := (oTst (oBin fLt (oPu (oFrz (oBin fShl (oPu (oC (.int 1))) (oVar 1)))) (oVar 0)))
noncomputable def L1_address_width : Os := (oAug 1 (fInt2 fun i j => i + j) (oPu (oC (.int 1))))
noncomputable def b_address_width : Os := (oSeq (oSet 1 (oRes (oC (.int 1))))
 (oSeq (oWhile W1_address_width
 L1_address_width)
 (oRetV 1)))
noncomputable def g_address_width : Fn := fnOf 2 b_address_width
theorem ok_address_width {P : Program} {w : World} {K : PySem.W.Frag} {mg : Str → Option Value} {base : Heap} {f : Addr} {fd : FuncData} (M : Mg K mg) (F : FnP K "address_width" s_address_width f fd) : FnOk P w K mg base CX0 1 f fd ["count"] (spD K 1 g_address_width) :=
  fn_ok F sc_address_width (by decide) (fun cdv A outer s H E hr G =>
  (bd_cons (sd_set 1 (rd_pd pd_int) sc_address_width.nd)
 (bd_cons (sd_while PassesOwn.never (td_ck ck_lt (ed_pd (pd_rd (rd_shl (ed_pd pd_int) (ed_var 1)))) (ed_var 0))
 (bd_one (sd_aug 1 ak_add (ed_pd pd_int) sc_address_width.nd)))
 (bd_one (sd_retV 1)))))
/-! _law_begin: 0 script, 1 cell -/
abbrev s__law_begin : Stmt := top 14
abbrev N__law_begin : List Str := ["script", "cell"]
theorem sc__law_begin : FnScope ["script", "cell"] ["script"] (defScope s__law_begin) := ⟨rfl, rfl, rfl, by decide +kernel, rfl, by decide +kernel, by decide +kernel⟩
noncomputable def C1__law_begin : O D := (oFrz (oCB fIntX (oCons (oVar 1) oNil)))
noncomputable def b__law_begin : Os := (oRet (oLst (oCons (oFrz (oLc [1] (oItm (oVar 0)) (gNm 1) oYes C1__law_begin)) (oCons (oC (.int 0)) (oCons (oC (.int 0)) (oCons (oC (.int 7)) (oCons (oC (.int 3)) oNil)))))))
noncomputable def g__law_begin : Fn := fnOf 2 b__law_begin
theorem ok__law_begin {P : Program} {w : World} {K : PySem.W.Frag} {mg : Str → Option Value} {base : Heap} {f : Addr} {fd : FuncData} (M : Mg K mg) (F : FnP K "_law_begin" s__law_begin f fd) : FnOk P w K mg base CX0 1 f fd ["script"] (spD K 1 g__law_begin) :=
  fn_ok F sc__law_begin (by decide) (fun cdv A outer s H E hr G =>
  (bd_one (sd_ret (rd_lst (qd_cons (pd_rd (rd_lc (own := [("cell", 1)]) (T := [1]) rfl sc__law_begin.nd (by decide) (id_seq (ed_var 0)) (blkOk_by (N := N__law_begin) (sc := defScope s__law_begin) (by decide +kernel)) (fun _ _ _ _ _ _ => (gd_name 1 sc__law_begin.nd)) (fun _ _ _ _ _ _ => tsd_nil) (fun _ _ _ _ _ _ => (pd_rd (zb_int rfl M.f_int (ad_cons (ed_var 1) ad_nil)))))) (qd_cons pd_int (qd_cons pd_int (qd_cons pd_int (qd_cons pd_int qd_nil)))))))))
/-! _law_draw: 0 d, 1 many, 2 size, 3 found, 4 cell -/
abbrev s__law_draw : Stmt := top 15
abbrev N__law_draw : List Str := ["d", "many", "size", "found", "cell"]
theorem sc__law_draw : FnScope ["d", "many", "size", "found", "cell"] ["d", "many"] (defScope s__law_draw) := ⟨rfl, rfl, rfl, by decide +kernel, rfl, by decide +kernel, by decide +kernel⟩
noncomputable def b__law_draw : Os := (oSeq (oIfS (oTst (oBin fGt (oPu (oFrz (oBin fIx (oVar 0) (oPu (oC (.int 2)))))) (oPu (oC (.int 0)))))
 (oSeq (oSet 3 (oBin fIx (oVar 0) (oPu (oC (.int 2)))))
 (oSeq (oStL 0 (oFrz (oBin fDiv (oVar 3) (oVar 1))) (oC (.int 2)))
 (oRet (oBin fMod (oPu (oFrz (oCB fIntX (oCons (oVar 3) oNil)))) (oVar 1)))))
 oNext)
 (oSeq (oSet 2 (oRes (oC (.int 0))))
 (oSeq (oIfS (oTst (oBin fLt (oPu (oFrz (oBin fIx (oVar 0) (oPu (oC (.int 1)))))) (oPu (oFrz (oLen (oPu (oFrz (oBin fIx (oVar 0) (oPu (oC (.int 0)))))))))))
 (oSeq (oSet 4 (oBin fIx (oPu (oFrz (oBin fIx (oVar 0) (oPu (oC (.int 0)))))) (oPu (oFrz (oBin fIx (oVar 0) (oPu (oC (.int 1))))))))
 (oSet 2 (oBin fAdd (oPu (oFrz (oBin fMulY (oPu (oC (.int 2))) (oPu (oFrz (oCB fAbs (oCons (oVar 4) oNil))))))) (oPu (oFrz (oCB fIntX (oCons (oPu (oFrz (oBin fLt (oVar 4) (oPu (oC (.int 0)))))) oNil)))))))
 oNext)
 (oSeq (oAuL 0 (fInt2 fun i j => i + j) (oC (.int 1)) (oC (.int 1)))
 (oSeq (oIfS (oTst (oBin fGe (oVar 2) (oPu (oFrz (oBin fMulY (oPu (oC (.int 2))) (oPu (oFrz (oBin fPow (oPu (oC (.int 10))) (oPu (oC (.int 18)))))))))))
 (oSeq (oSet 3 (oBin fMod (oPu (oFrz (oCB fIntX (oCons (oPu (oFrz (oBin fDiv (oVar 2) (oPu (oC (.int 2)))))) oNil)))) (oPu (oFrz (oBin fShl (oPu (oC (.int 1))) (oPu (oC (.int 6000))))))))
 (oSeq (oStL 0 (oFrz (oBin fDiv (oVar 3) (oVar 1))) (oC (.int 2)))
 (oRet (oBin fMod (oPu (oFrz (oCB fIntX (oCons (oVar 3) oNil)))) (oVar 1)))))
 oNext)
 (oSeq (oStL 0 (oFrz (oBin fMod (oPu (oFrz (oCB fIntX (oCons (oPu (oFrz (oBin fAdd (oPu (oFrz (oBin fAdd (oPu (oFrz (oBin fAdd (oPu (oFrz (oBin fMulY (oPu (oFrz (oBin fIx (oVar 0) (oPu (oC (.int 3)))))) (oPu (oC (.int 48271)))))) (oPu (oFrz (oBin fMulY (oPu (oFrz (oBin fMod (oPu (oFrz (oCB fIntX (oCons (oVar 2) oNil)))) (oPu (oC (.int 2147483629)))))) (oPu (oC (.int 16807))))))))) (oPu (oFrz (oBin fMulY (oPu (oFrz (oBin fIx (oVar 0) (oPu (oC (.int 1)))))) (oPu (oC (.int 69621))))))))) (oPu (oC (.int 11)))))) oNil)))) (oPu (oC (.int 2147483647))))) (oC (.int 3)))
 (oRet (oBin fMod (oPu (oFrz (oCB fIntX (oCons (oPu (oFrz (oBin fDiv (oPu (oFrz (oBin fIx (oVar 0) (oPu (oC (.int 3)))))) (oPu (oC (.int 16)))))) oNil)))) (oVar 1)))))))))
noncomputable def g__law_draw : Fn := fnOf 5 b__law_draw
theorem ok__law_draw {P : Program} {w : World} {K : PySem.W.Frag} {mg : Str → Option Value} {base : Heap} {f : Addr} {fd : FuncData} (M : Mg K mg) (F : FnP K "_law_draw" s__law_draw f fd) : FnOk P w K mg base CX0 1 f fd ["d", "many"] (spD K 2 g__law_draw) :=
  fn_ok F sc__law_draw (by decide) (fun cdv A outer s H E hr G =>
  (bd_cons (sd_if (td_ck ck_gt (ed_pd (pd_rd (rd_ix (ed_var 0) (ed_pd pd_int)))) (ed_pd pd_int))
 (bd_cons (sd_set 3 (rd_ix (ed_var 0) (ed_pd pd_int)) sc__law_draw.nd)
 (bd_cons (sd_stL 0 (pd_rd (rd_fdiv (ed_var 3) (ed_var 1))) pd_int)
 (bd_one (sd_ret (rd_mod (ed_pd (pd_rd (zb_int rfl M.f_int (ad_cons (ed_var 3) ad_nil)))) (ed_var 1))))))
 bd_nil)
 (bd_cons (sd_set 2 (rd_pd pd_int) sc__law_draw.nd)
 (bd_cons (sd_if (td_ck ck_lt (ed_pd (pd_rd (rd_ix (ed_var 0) (ed_pd pd_int)))) (ed_pd (pd_rd (rd_len rfl M.f_len (ed_pd (pd_rd (rd_ix (ed_var 0) (ed_pd pd_int))))))))
 (bd_cons (sd_set 4 (rd_ix (ed_pd (pd_rd (rd_ix (ed_var 0) (ed_pd pd_int)))) (ed_pd (pd_rd (rd_ix (ed_var 0) (ed_pd pd_int))))) sc__law_draw.nd)
 (bd_one (sd_set 2 (rd_add (ed_pd (pd_rd (rd_mulY (ed_pd pd_int) (ed_pd (pd_rd (zb_abs rfl M.f_abs (ad_cons (ed_var 4) ad_nil))))))) (ed_pd (pd_rd (zb_int rfl M.f_int (ad_cons (ed_pd (pd_rd (rd_ck ck_lt (ed_var 4) (ed_pd pd_int)))) ad_nil))))) sc__law_draw.nd)))
 bd_nil)
 (bd_cons (sd_auL 0 ak_add pd_int pd_int)
 (bd_cons (sd_if (td_ck ck_ge (ed_var 2) (ed_pd (pd_rd (rd_mulY (ed_pd pd_int) (ed_pd (pd_rd (rd_pow (ed_pd pd_int) (ed_pd pd_int))))))))
 (bd_cons (sd_set 3 (rd_mod (ed_pd (pd_rd (zb_int rfl M.f_int (ad_cons (ed_pd (pd_rd (rd_fdiv (ed_var 2) (ed_pd pd_int)))) ad_nil)))) (ed_pd (pd_rd (rd_shl (ed_pd pd_int) (ed_pd pd_int))))) sc__law_draw.nd)
 (bd_cons (sd_stL 0 (pd_rd (rd_fdiv (ed_var 3) (ed_var 1))) pd_int)
 (bd_one (sd_ret (rd_mod (ed_pd (pd_rd (zb_int rfl M.f_int (ad_cons (ed_var 3) ad_nil)))) (ed_var 1))))))
 bd_nil)
 (bd_cons (sd_stL 0 (pd_rd (rd_mod (ed_pd (pd_rd (zb_int rfl M.f_int (ad_cons (ed_pd (pd_rd (rd_add (ed_pd (pd_rd (rd_add (ed_pd (pd_rd (rd_add (ed_pd (pd_rd (rd_mulY (ed_pd (pd_rd (rd_ix (ed_var 0) (ed_pd pd_int)))) (ed_pd pd_int)))) (ed_pd (pd_rd (rd_mulY (ed_pd (pd_rd (rd_mod (ed_pd (pd_rd (zb_int rfl M.f_int (ad_cons (ed_var 2) ad_nil)))) (ed_pd pd_int)))) (ed_pd pd_int))))))) (ed_pd (pd_rd (rd_mulY (ed_pd (pd_rd (rd_ix (ed_var 0) (ed_pd pd_int)))) (ed_pd pd_int))))))) (ed_pd pd_int)))) ad_nil)))) (ed_pd pd_int))) pd_int)
 (bd_one (sd_ret (rd_mod (ed_pd (pd_rd (zb_int rfl M.f_int (ad_cons (ed_pd (pd_rd (rd_fdiv (ed_pd (pd_rd (rd_ix (ed_var 0) (ed_pd pd_int)))) (ed_pd pd_int)))) ad_nil)))) (ed_var 1)))))))))))
/-! _law_pick: 0 d, 1 row -/
abbrev s__law_pick : Stmt := top 16
abbrev N__law_pick : List Str := ["d", "row"]
theorem sc__law_pick : FnScope ["d", "row"] ["d", "row"] (defScope s__law_pick) := ⟨rfl, rfl, rfl, by decide +kernel, rfl, by decide +kernel, by decide +kernel⟩
noncomputable def b__law_pick : Os := (oRet (oBin fIx (oVar 1) (oPu (oFrz (oCall g__law_draw (oCons (oVar 0) (oCons (oPu (oFrz (oLen (oVar 1)))) oNil)))))))
noncomputable def g__law_pick : Fn := fnOf 2 b__law_pick
theorem ok__law_pick {P : Program} {w : World} {K : PySem.W.Frag} {mg : Str → Option Value} {base : Heap} {f : Addr} {fd : FuncData} (M : Mg K mg) (F : FnP K "_law_pick" s__law_pick f fd) (c__law_draw : Cal P w K mg base 1 "_law_draw" ["d", "many"] g__law_draw) : FnOk P w K mg base CX0 2 f fd ["d", "row"] (spD K 2 g__law_pick) :=
  fn_ok F sc__law_pick (by decide) (fun cdv A outer s H E hr G =>
  (bd_one (sd_ret (rd_ix (ed_var 1) (ed_pd (pd_rd (rd_cal c__law_draw hr (by decide) rfl (ad_cons (ed_var 0) (ad_cons (ed_pd (pd_rd (rd_len rfl M.f_len (ed_var 1)))) ad_nil)) (many_cons (many_cons many_nil)))))))))
/-! _law_pop: 0 d, 1 row -/
abbrev s__law_pop : Stmt := top 17
abbrev N__law_pop : List Str := ["d", "row"]
theorem sc__law_pop : FnScope ["d", "row"] ["d", "row"] (defScope s__law_pop) := ⟨rfl, rfl, rfl, by decide +kernel, rfl, by decide +kernel, by decide +kernel⟩
noncomputable def b__law_pop : Os := (oRet (oRes (oMut 1 fPopAt (oCons (oPu (oFrz (oCall g__law_draw (oCons (oVar 0) (oCons (oPu (oFrz (oLen (oVar 1)))) oNil))))) oNil))))
noncomputable def g__law_pop : Fn := fnOf 2 b__law_pop
theorem ok__law_pop {P : Program} {w : World} {K : PySem.W.Frag} {mg : Str → Option Value} {base : Heap} {f : Addr} {fd : FuncData} (M : Mg K mg) (F : FnP K "_law_pop" s__law_pop f fd) (c__law_draw : Cal P w K mg base 1 "_law_draw" ["d", "many"] g__law_draw) : FnOk P w K mg base CX0 2 f fd ["d", "row"] (spD K 2 g__law_pop) :=
  fn_ok F sc__law_pop (by decide) (fun cdv A outer s H E hr G =>
  (bd_one (sd_ret (rd_pd (zl_popAt 1 (ad_cons (ed_pd (pd_rd (rd_cal c__law_draw hr (by decide) rfl (ad_cons (ed_var 0) (ad_cons (ed_pd (pd_rd (rd_len rfl M.f_len (ed_var 1)))) ad_nil)) (many_cons (many_cons many_nil))))) ad_nil))))))
/-! _law_rare: 0 d, 1 many -/
abbrev s__law_rare : Stmt := top 18
abbrev N__law_rare : List Str := ["d", "many"]
theorem sc__law_rare : FnScope ["d", "many"] ["d", "many"] (defScope s__law_rare) := ⟨rfl, rfl, rfl, by decide +kernel, rfl, by decide +kernel, by decide +kernel⟩
noncomputable def b__law_rare : Os := (oRet (oBin fEq (oPu (oFrz (oCall g__law_draw (oCons (oVar 0) (oCons (oPu (oKeep (oVar 1))) oNil))))) (oPu (oFrz (oBin fDiv (oVar 1) (oPu (oC (.int 2))))))))
noncomputable def g__law_rare : Fn := fnOf 2 b__law_rare
theorem ok__law_rare {P : Program} {w : World} {K : PySem.W.Frag} {mg : Str → Option Value} {base : Heap} {f : Addr} {fd : FuncData} (M : Mg K mg) (F : FnP K "_law_rare" s__law_rare f fd) (c__law_draw : Cal P w K mg base 1 "_law_draw" ["d", "many"] g__law_draw) : FnOk P w K mg base CX0 2 f fd ["d", "many"] (spD K 2 g__law_rare) :=
  fn_ok F sc__law_rare (by decide) (fun cdv A outer s H E hr G =>
  (bd_one (sd_ret (rd_ck (ck_eq hr) (ed_pd (pd_rd (rd_cal c__law_draw hr (by decide) rfl (ad_cons (ed_var 0) (ad_cons (ed_pd (pd_ed (ed_var 1))) ad_nil)) (many_cons (many_cons many_nil))))) (ed_pd (pd_rd (rd_fdiv (ed_var 1) (ed_pd pd_int))))))))
/-! _law_shuffled: 0 d, 1 row, 2 left, 3 found, 4 k -/
abbrev s__law_shuffled : Stmt := top 19
abbrev N__law_shuffled : List Str := ["d", "row", "left", "found", "k"]
theorem sc__law_shuffled : FnScope ["d", "row", "left", "found", "k"] ["d", "row"] (defScope s__law_shuffled) := ⟨rfl, rfl, rfl, by decide +kernel, rfl, by decide +kernel, by decide +kernel⟩
noncomputable def L1__law_shuffled : Os := (oDrop (oPu (oMutK 3 fAppend (oCons (oMut 2 fPopAt (oCons (oPu (oFrz (oCall g__law_draw (oCons (oVar 0) (oCons (oPu (oFrz (oLen (oVar 2)))) oNil))))) oNil)) oNil))))
noncomputable def b__law_shuffled : Os := (oSeq (oSet 2 (oCB fList (oCons (oVar 1) oNil)))
 (oSeq (oSet 3 (oLst oNil))
 (oSeq (oFor (oRange (oCons (oFrz (oLen (oVar 2))) oNil)) (gNm 4)
 L1__law_shuffled)
 (oRetV 3))))
noncomputable def g__law_shuffled : Fn := fnOf 5 b__law_shuffled
theorem ok__law_shuffled {P : Program} {w : World} {K : PySem.W.Frag} {mg : Str → Option Value} {base : Heap} {f : Addr} {fd : FuncData} (M : Mg K mg) (F : FnP K "_law_shuffled" s__law_shuffled f fd) (c__law_draw : Cal P w K mg base 1 "_law_draw" ["d", "many"] g__law_draw) : FnOk P w K mg base CX0 2 f fd ["d", "row"] (spD K 2 g__law_shuffled) :=
  fn_ok F sc__law_shuffled (by decide) (fun cdv A outer s H E hr G =>
  (bd_cons (sd_set 2 (zb_list rfl M.f_list (ad_cons (ed_var 1) ad_nil)) sc__law_shuffled.nd)
 (bd_cons (sd_set 3 (rd_lst qd_nil) sc__law_shuffled.nd)
 (bd_cons (sd_for PassesOwn.never rfl (id_range1 rfl M.f_range (qd_cons (pd_rd (rd_len rfl M.f_len (ed_var 2))) qd_nil)) (gd_name 4 sc__law_shuffled.nd)
 (bd_one (sd_expr (ed_pd (zl_append 3 (qd_cons (zl_popAt 2 (ad_cons (ed_pd (pd_rd (rd_cal c__law_draw hr (by decide) rfl (ad_cons (ed_var 0) (ad_cons (ed_pd (pd_rd (rd_len rfl M.f_len (ed_var 2)))) ad_nil)) (many_cons (many_cons many_nil))))) ad_nil)) qd_nil))))))
 (bd_one (sd_retV 3))))))
/-! _law_is_int: 0 thing -/
abbrev s__law_is_int : Stmt := top 20
abbrev N__law_is_int : List Str := ["thing"]
theorem sc__law_is_int : FnScope ["thing"] ["thing"] (defScope s__law_is_int) := ⟨rfl, rfl, rfl, by decide +kernel, rfl, by decide +kernel, by decide +kernel⟩
noncomputable def b__law_is_int : Os := (oRet (oRes (oAndV (oFrz (oIsi "int" (oVar 0))) (oNotV (oFrz (oIsi "bool" (oVar 0)))))))
noncomputable def g__law_is_int : Fn := fnOf 1 b__law_is_int
theorem ok__law_is_int {P : Program} {w : World} {K : PySem.W.Frag} {mg : Str → Option Value} {base : Heap} {f : Addr} {fd : FuncData} (M : Mg K mg) (F : FnP K "_law_is_int" s__law_is_int f fd) : FnOk P w K mg base CX0 1 f fd ["thing"] (spD K 1 g__law_is_int) :=
  fn_ok F sc__law_is_int (by decide) (fun cdv A outer s H E hr G =>
  (bd_one (sd_ret (rd_pd (pd_and (pd_rd (rd_isi rfl M.f_isinstance (ed_var 0) rfl M.f_int boot_int)) (pd_one (pd_not (pd_rd (rd_isi rfl M.f_isinstance (ed_var 0) rfl M.f_bool boot_bool)))))))))
/-! _law_names: 0 text -/
abbrev s__law_names : Stmt := top 21
abbrev N__law_names : List Str := ["text"]
theorem sc__law_names : FnScope ["text"] [] (defScope s__law_names) := ⟨rfl, rfl, rfl, by decide +kernel, rfl, by decide +kernel, by decide +kernel⟩
noncomputable def b__law_names : Os := (oSeq (oSet 0 (oRes (oC (.str "a b2 sum left r k0 carry z9z full tail n m8 aa busy cnt p t4 even2 ab1 head u v2 w lowest high mid "))))
 (oSeq (oSet 0 (oBin fAdd (oVar 0) (oPu (oC (.str "s t e f g h i j k x y q7 deep turn gate l5 hold next1 o c0 d two zz1 near far9 ring2 ")))))
 (oRet (oBM "str" fSplit (oPu (oFrz (oBin fAdd (oVar 0) (oPu (oC (.str "aaaaaaa8 b c1 top2 net3 row col7 v")))))) (oCons (oPu (oC (.str " "))) oNil)))))
noncomputable def g__law_names : Fn := fnOf 1 b__law_names
theorem ok__law_names {P : Program} {w : World} {K : PySem.W.Frag} {mg : Str → Option Value} {base : Heap} {f : Addr} {fd : FuncData} (M : Mg K mg) (F : FnP K "_law_names" s__law_names f fd) : FnOk P w K mg base CX0 1 f fd [] (spD K 0 g__law_names) :=
  fn_ok F sc__law_names (by decide) (fun cdv A outer s H E hr G =>
  (bd_cons (sd_set 0 (rd_pd pd_str) sc__law_names.nd)
 (bd_cons (sd_set 0 (rd_add (ed_var 0) (ed_pd pd_str)) sc__law_names.nd)
 (bd_one (sd_ret (zm_split (ed_pd (pd_rd (rd_add (ed_var 0) (ed_pd pd_str)))) (ad_cons (ed_pd pd_str) ad_nil)))))))
/-! _law_drawn_size: 0 d, 1 depth, 2 names, 3 way, 4 left, 5 right -/
abbrev s__law_drawn_size : Stmt := top 22
abbrev N__law_drawn_size : List Str := ["d", "depth", "names", "way", "left", "right"]
theorem sc__law_drawn_size : FnScope ["d", "depth", "names", "way", "left", "right"] ["d", "depth", "names"] (defScope s__law_drawn_size) := ⟨rfl, rfl, rfl, by decide +kernel, rfl, by decide +kernel, by decide +kernel⟩
noncomputable def b__law_drawn_size (gr : Fn) : Os := (oSeq (oSet 3 (oCall g__law_draw (oCons (oVar 0) (oCons (oPu (oKeep (oIf (oTst (oBin fGt (oVar 1) (oPu (oC (.int 0))))) (oPu (oC (.int 8))) (oPu (oC (.int 4)))))) oNil))))
 (oSeq (oIfS (oTst (oBin fLt (oVar 3) (oPu (oC (.int 2)))))
 (oRet (oRes (oTup (oCons (oC (.str "num")) (oCons (oFrz (oCall g__law_pick (oCons (oVar 0) (oCons (oPu (oFrz (oLst (oCons (oC (.int 0)) (oCons (oC (.int 1)) (oCons (oC (.int 2)) (oCons (oC (.int 7)) (oCons (oC (.int 255)) (oCons (oFrz (oCall g__law_draw (oCons (oVar 0) (oCons (oPu (oC (.int 256))) oNil)))) oNil))))))))) oNil)))) oNil)))))
 oNext)
 (oSeq (oIfS (oTst (oBin fLt (oVar 3) (oPu (oC (.int 4)))))
 (oRet (oRes (oTup (oCons (oC (.str "name")) (oCons (oFrz (oCall g__law_pick (oCons (oVar 0) (oCons (oPu (oKeep (oVar 2))) oNil)))) oNil)))))
 oNext)
 (oSeq (oSet 4 (oCall gr (oCons (oVar 0) (oCons (oPu (oFrz (oBin fSub (oVar 1) (oPu (oC (.int 1)))))) (oCons (oPu (oKeep (oVar 2))) oNil)))))
 (oSeq (oSet 5 (oCall gr (oCons (oVar 0) (oCons (oPu (oFrz (oBin fSub (oVar 1) (oPu (oC (.int 1)))))) (oCons (oPu (oKeep (oVar 2))) oNil)))))
 (oRet (oRes (oTup (oCons (oFrz (oBin fIx (oPu (oFrz (oLst (oCons (oC (.str "plus")) (oCons (oC (.str "times")) oNil))))) (oPu (oFrz (oCall g__law_draw (oCons (oVar 0) (oCons (oPu (oC (.int 2))) oNil))))))) (oCons (oKeep (oVar 4)) (oCons (oKeep (oVar 5)) oNil)))))))))))
noncomputable def gn__law_drawn_size : Nat → Fn
  | 0 => fun _ => .st
  | n + 1 => fnOf 6 (b__law_drawn_size (gn__law_drawn_size n))
noncomputable def g__law_drawn_size : Fn := gn__law_drawn_size 14
theorem noXn__law_drawn_size : ∀ n, NoX (gn__law_drawn_size n)
  | 0 => fun _ _ _ h => by cases h
  | n + 1 => noX_fnOf _ _
theorem noX__law_drawn_size : NoX g__law_drawn_size := noXn__law_drawn_size _
theorem okn__law_drawn_size {P : Program} {w : World} {K : PySem.W.Frag} {mg : Str → Option Value} {base : Heap} {f : Addr} {fd : FuncData} (M : Mg K mg) (F : FnP K "_law_drawn_size" s__law_drawn_size f fd) (c__law_draw : Cal P w K mg base 1 "_law_draw" ["d", "many"] g__law_draw) (c__law_pick : Cal P w K mg base 2 "_law_pick" ["d", "row"] g__law_pick) (n : Nat) (gr : Fn) (c_rec : Cal P w K mg base (3 + n) "_law_drawn_size" ["d", "depth", "names"] gr) : FnOk P w K mg base CX0 (3 + n + 1) f fd ["d", "depth", "names"] (spD K 3 (fnOf 6 (b__law_drawn_size gr))) :=
  fn_ok F sc__law_drawn_size (by decide) (fun cdv A outer s H E hr G =>
  (bd_cons (sd_set 3 (rd_cal c__law_draw hr (by omega) rfl (ad_cons (ed_var 0) (ad_cons (ed_pd (pd_ed (ed_if (td_ck ck_gt (ed_var 1) (ed_pd pd_int)) (ed_pd pd_int) (ed_pd pd_int)))) ad_nil)) (many_cons (many_cons many_nil))) sc__law_drawn_size.nd)
 (bd_cons (sd_if (td_ck ck_lt (ed_var 3) (ed_pd pd_int))
 (bd_one (sd_ret (rd_pd (pd_tup (qd_cons pd_str (qd_cons (pd_rd (rd_cal c__law_pick hr (by omega) rfl (ad_cons (ed_var 0) (ad_cons (ed_pd (pd_rd (rd_lst (qd_cons pd_int (qd_cons pd_int (qd_cons pd_int (qd_cons pd_int (qd_cons pd_int (qd_cons (pd_rd (rd_cal c__law_draw hr (by omega) rfl (ad_cons (ed_var 0) (ad_cons (ed_pd pd_int) ad_nil)) (many_cons (many_cons many_nil)))) qd_nil))))))))) ad_nil)) (many_cons (many_cons many_nil)))) qd_nil))))))
 bd_nil)
 (bd_cons (sd_if (td_ck ck_lt (ed_var 3) (ed_pd pd_int))
 (bd_one (sd_ret (rd_pd (pd_tup (qd_cons pd_str (qd_cons (pd_rd (rd_cal c__law_pick hr (by omega) rfl (ad_cons (ed_var 0) (ad_cons (ed_pd (pd_ed (ed_var 2))) ad_nil)) (many_cons (many_cons many_nil)))) qd_nil))))))
 bd_nil)
 (bd_cons (sd_set 4 (rd_cal c_rec hr (by omega) rfl (ad_cons (ed_var 0) (ad_cons (ed_pd (pd_rd (rd_sub (ed_var 1) (ed_pd pd_int)))) (ad_cons (ed_pd (pd_ed (ed_var 2))) ad_nil))) (many_cons (many_cons (many_cons many_nil)))) sc__law_drawn_size.nd)
 (bd_cons (sd_set 5 (rd_cal c_rec hr (by omega) rfl (ad_cons (ed_var 0) (ad_cons (ed_pd (pd_rd (rd_sub (ed_var 1) (ed_pd pd_int)))) (ad_cons (ed_pd (pd_ed (ed_var 2))) ad_nil))) (many_cons (many_cons (many_cons many_nil)))) sc__law_drawn_size.nd)
 (bd_one (sd_ret (rd_pd (pd_tup (qd_cons (pd_rd (rd_ix (ed_pd (pd_rd (rd_lst (qd_cons pd_str (qd_cons pd_str qd_nil))))) (ed_pd (pd_rd (rd_cal c__law_draw hr (by omega) rfl (ad_cons (ed_var 0) (ad_cons (ed_pd pd_int) ad_nil)) (many_cons (many_cons many_nil))))))) (qd_cons (pd_ed (ed_var 4)) (qd_cons (pd_ed (ed_var 5)) qd_nil)))))))))))))
theorem oka__law_drawn_size {P : Program} {w : World} {K : PySem.W.Frag} {mg : Str → Option Value} {base : Heap} {f : Addr} {fd : FuncData} (M : Mg K mg) (F : FnP K "_law_drawn_size" s__law_drawn_size f fd) (c__law_draw : Cal P w K mg base 1 "_law_draw" ["d", "many"] g__law_draw) (c__law_pick : Cal P w K mg base 2 "_law_pick" ["d", "row"] g__law_pick) (e : mg "_law_drawn_size" = some (.ref f)) : ∀ n, FnOk P w K mg base CX0 (3 + n) f fd ["d", "depth", "names"] (spD K 3 (gn__law_drawn_size n))
  | 0 => fnOk_st
  | n + 1 => okn__law_drawn_size M F c__law_draw c__law_pick n (gn__law_drawn_size n) (Cal.of (oka__law_drawn_size M F c__law_draw c__law_pick e n) e F fun _ _ _ _ _ _ us hl => match us, hl with | [_, _, _], _ => rfl)
/-! _law_long_size: 0 d, 1 names, 2 found, 3 k, 4 other, 5 op -/
abbrev s__law_long_size : Stmt := top 23
abbrev N__law_long_size : List Str := ["d", "names", "found", "k", "other", "op"]
theorem sc__law_long_size : FnScope ["d", "names", "found", "k", "other", "op"] ["d", "names"] (defScope s__law_long_size) := ⟨rfl, rfl, rfl, by decide +kernel, rfl, by decide +kernel, by decide +kernel⟩
noncomputable def L1__law_long_size : Os := (oSeq (oSet 4 (oCall g__law_drawn_size (oCons (oVar 0) (oCons (oPu (oFrz (oCB fIntX (oCons (oPu (oFrz (oBin fGt (oVar 3) (oPu (oC (.int 0)))))) oNil)))) (oCons (oPu (oKeep (oVar 1))) oNil)))))
 (oSeq (oSet 5 (oBin fIx (oPu (oFrz (oLst (oCons (oC (.str "plus")) (oCons (oC (.str "times")) oNil))))) (oPu (oFrz (oCall g__law_draw (oCons (oVar 0) (oCons (oPu (oC (.int 2))) oNil)))))))
 (oSet 2 (oRes (oKeep (oIf (oTst (oBin fEq (oPu (oFrz (oCall g__law_draw (oCons (oVar 0) (oCons (oPu (oC (.int 2))) oNil))))) (oPu (oC (.int 0))))) (oPu (oTup (oCons (oKeep (oVar 5)) (oCons (oKeep (oVar 2)) (oCons (oKeep (oVar 4)) oNil))))) (oPu (oTup (oCons (oKeep (oVar 5)) (oCons (oKeep (oVar 4)) (oCons (oKeep (oVar 2)) oNil)))))))))))
noncomputable def b__law_long_size : Os := (oSeq (oSet 2 (oCall g__law_drawn_size (oCons (oVar 0) (oCons (oPu (oC (.int 1))) (oCons (oPu (oKeep (oVar 1))) oNil)))))
 (oSeq (oFor (oRange (oCons (oC (.int 11)) oNil)) (gNm 3)
 L1__law_long_size)
 (oRetV 2)))
noncomputable def g__law_long_size : Fn := fnOf 6 b__law_long_size
theorem ok__law_long_size {P : Program} {w : World} {K : PySem.W.Frag} {mg : Str → Option Value} {base : Heap} {f : Addr} {fd : FuncData} (M : Mg K mg) (F : FnP K "_law_long_size" s__law_long_size f fd) (c__law_draw : Cal P w K mg base 1 "_law_draw" ["d", "many"] g__law_draw) (c__law_drawn_size : Cal P w K mg base 17 "_law_drawn_size" ["d", "depth", "names"] g__law_drawn_size) : FnOk P w K mg base CX0 18 f fd ["d", "names"] (spD K 2 g__law_long_size) :=
  fn_ok F sc__law_long_size (by decide) (fun cdv A outer s H E hr G =>
  (bd_cons (sd_set 2 (rd_cal c__law_drawn_size hr (by decide) rfl (ad_cons (ed_var 0) (ad_cons (ed_pd pd_int) (ad_cons (ed_pd (pd_ed (ed_var 1))) ad_nil))) (many_cons (many_cons (many_cons many_nil)))) sc__law_long_size.nd)
 (bd_cons (sd_for PassesOwn.never rfl (id_range1 rfl M.f_range (qd_cons pd_int qd_nil)) (gd_name 3 sc__law_long_size.nd)
 (bd_cons (sd_set 4 (rd_cal c__law_drawn_size hr (by decide) rfl (ad_cons (ed_var 0) (ad_cons (ed_pd (pd_rd (zb_int rfl M.f_int (ad_cons (ed_pd (pd_rd (rd_ck ck_gt (ed_var 3) (ed_pd pd_int)))) ad_nil)))) (ad_cons (ed_pd (pd_ed (ed_var 1))) ad_nil))) (many_cons (many_cons (many_cons many_nil)))) sc__law_long_size.nd)
 (bd_cons (sd_set 5 (rd_ix (ed_pd (pd_rd (rd_lst (qd_cons pd_str (qd_cons pd_str qd_nil))))) (ed_pd (pd_rd (rd_cal c__law_draw hr (by decide) rfl (ad_cons (ed_var 0) (ad_cons (ed_pd pd_int) ad_nil)) (many_cons (many_cons many_nil)))))) sc__law_long_size.nd)
 (bd_one (sd_set 2 (rd_pd (pd_ed (ed_if (td_ck (ck_eq hr) (ed_pd (pd_rd (rd_cal c__law_draw hr (by decide) rfl (ad_cons (ed_var 0) (ad_cons (ed_pd pd_int) ad_nil)) (many_cons (many_cons many_nil))))) (ed_pd pd_int)) (ed_pd (pd_tup (qd_cons (pd_ed (ed_var 5)) (qd_cons (pd_ed (ed_var 2)) (qd_cons (pd_ed (ed_var 4)) qd_nil))))) (ed_pd (pd_tup (qd_cons (pd_ed (ed_var 5)) (qd_cons (pd_ed (ed_var 4)) (qd_cons (pd_ed (ed_var 2)) qd_nil)))))))) sc__law_long_size.nd)))))
 (bd_one (sd_retV 2)))))
/-! _law_numbers: 0 d, 1 names, 2 found, 3 name -/
abbrev s__law_numbers : Stmt := top 24
abbrev N__law_numbers : List Str := ["d", "names", "found", "name"]
theorem sc__law_numbers : FnScope ["d", "names", "found", "name"] ["d", "names"] (defScope s__law_numbers) := ⟨rfl, rfl, rfl, by decide +kernel, rfl, by decide +kernel, by decide +kernel⟩
noncomputable def L1__law_numbers : Os := (oIfS (oTst (oBin fGt (oPu (oFrz (oCall g__law_draw (oCons (oVar 0) (oCons (oPu (oC (.int 4))) oNil))))) (oPu (oC (.int 0)))))
 (oDrop (oPu (oMutK 2 fAppend (oCons (oTup (oCons (oKeep (oVar 3)) (oCons (oFrz (oCall g__law_pick (oCons (oVar 0) (oCons (oPu (oFrz (oLst (oCons (oC (.int 0)) (oCons (oC (.int 1)) (oCons (oC (.int 2)) (oCons (oC (.int 255)) (oCons (oFrz (oCall g__law_draw (oCons (oVar 0) (oCons (oPu (oC (.int 256))) oNil)))) oNil)))))))) oNil)))) oNil))) oNil))))
 oNext)
noncomputable def b__law_numbers : Os := (oSeq (oSet 2 (oLst oNil))
 (oSeq (oFor (oItm (oPu (oFrz (oCall g__law_shuffled (oCons (oVar 0) (oCons (oPu (oKeep (oVar 1))) oNil)))))) (gNm 3)
 L1__law_numbers)
 (oRet (oCB fTuple (oCons (oVar 2) oNil)))))
noncomputable def g__law_numbers : Fn := fnOf 4 b__law_numbers
theorem ok__law_numbers {P : Program} {w : World} {K : PySem.W.Frag} {mg : Str → Option Value} {base : Heap} {f : Addr} {fd : FuncData} (M : Mg K mg) (F : FnP K "_law_numbers" s__law_numbers f fd) (c__law_draw : Cal P w K mg base 1 "_law_draw" ["d", "many"] g__law_draw) (c__law_pick : Cal P w K mg base 2 "_law_pick" ["d", "row"] g__law_pick) (c__law_shuffled : Cal P w K mg base 2 "_law_shuffled" ["d", "row"] g__law_shuffled) : FnOk P w K mg base CX0 3 f fd ["d", "names"] (spD K 2 g__law_numbers) :=
  fn_ok F sc__law_numbers (by decide) (fun cdv A outer s H E hr G =>
  (bd_cons (sd_set 2 (rd_lst qd_nil) sc__law_numbers.nd)
 (bd_cons (sd_for PassesOwn.never rfl (id_seq (ed_pd (pd_rd (rd_cal c__law_shuffled hr (by decide) rfl (ad_cons (ed_var 0) (ad_cons (ed_pd (pd_ed (ed_var 1))) ad_nil)) (many_cons (many_cons many_nil)))))) (gd_name 3 sc__law_numbers.nd)
 (bd_one (sd_if (td_ck ck_gt (ed_pd (pd_rd (rd_cal c__law_draw hr (by decide) rfl (ad_cons (ed_var 0) (ad_cons (ed_pd pd_int) ad_nil)) (many_cons (many_cons many_nil))))) (ed_pd pd_int))
 (bd_one (sd_expr (ed_pd (zl_append 2 (qd_cons (pd_tup (qd_cons (pd_ed (ed_var 3)) (qd_cons (pd_rd (rd_cal c__law_pick hr (by decide) rfl (ad_cons (ed_var 0) (ad_cons (ed_pd (pd_rd (rd_lst (qd_cons pd_int (qd_cons pd_int (qd_cons pd_int (qd_cons pd_int (qd_cons (pd_rd (rd_cal c__law_draw hr (by decide) rfl (ad_cons (ed_var 0) (ad_cons (ed_pd pd_int) ad_nil)) (many_cons (many_cons many_nil)))) qd_nil)))))))) ad_nil)) (many_cons (many_cons many_nil)))) qd_nil))) qd_nil)))))
 bd_nil)))
 (bd_one (sd_ret (zb_tuple rfl M.f_tuple (ad_cons (ed_var 2) ad_nil)))))))
/-! _law_due: 0 size, 1 numbers, 2 left, 3 right, 4 row, 5 name, 6 number -/
abbrev s__law_due : Stmt := top 25
abbrev N__law_due : List Str := ["size", "numbers", "left", "right", "row", "name", "number"]
theorem sc__law_due : FnScope ["size", "numbers", "left", "right", "row", "name", "number"] ["size", "numbers"] (defScope s__law_due) := ⟨rfl, rfl, rfl, by decide +kernel, rfl, by decide +kernel, by decide +kernel⟩
noncomputable def C1__law_due (gr : Fn) : O D := (oKeep (oVar 6))
noncomputable def T1__law_due (gr : Fn) : O Bool := (oTst (oBin fEq (oVar 5) (oPu (oFrz (oBin fIx (oVar 0) (oPu (oC (.int 1))))))))
noncomputable def b__law_due (gr : Fn) : Os := (oSeq (oIfS (oTst (oBin fEq (oPu (oFrz (oBin fIx (oVar 0) (oPu (oC (.int 0)))))) (oPu (oC (.str "num")))))
 (oRet (oRes (oTup (oCons (oC (.str "value")) (oCons (oFrz (oBin fIx (oVar 0) (oPu (oC (.int 1))))) oNil)))))
 oNext)
 (oSeq (oIfS (oTst (oBin fEq (oPu (oFrz (oBin fIx (oVar 0) (oPu (oC (.int 0)))))) (oPu (oC (.str "name")))))
 (oSeq (oSet 4 (oLc [5, 6] (oItm (oVar 1)) (gTp 2 (gCn (gNm 5) (gCn (gNm 6) gNl))) (T1__law_due gr) (C1__law_due gr)))
 (oRet (oRes (oKeep (oIf (oTst (oBin fGt (oPu (oFrz (oLen (oVar 4)))) (oPu (oC (.int 0))))) (oPu (oTup (oCons (oC (.str "value")) (oCons (oFrz (oBin fIx (oVar 4) (oPu (oC (.int 0))))) oNil)))) (oPu (oTup (oCons (oC (.str "Unknown")) (oCons (oFrz (oBin fIx (oVar 0) (oPu (oC (.int 1))))) oNil)))))))))
 oNext)
 (oSeq (oSet 2 (oCall gr (oCons (oPu (oFrz (oBin fIx (oVar 0) (oPu (oC (.int 1)))))) (oCons (oPu (oKeep (oVar 1))) oNil))))
 (oSeq (oSet 3 (oCall gr (oCons (oPu (oFrz (oBin fIx (oVar 0) (oPu (oC (.int 2)))))) (oCons (oPu (oKeep (oVar 1))) oNil))))
 (oSeq (oIfS (oTst (oBin fNe (oPu (oFrz (oBin fIx (oVar 2) (oPu (oC (.int 0)))))) (oPu (oC (.str "value")))))
 (oRetV 2)
 oNext)
 (oSeq (oIfS (oTst (oBin fNe (oPu (oFrz (oBin fIx (oVar 3) (oPu (oC (.int 0)))))) (oPu (oC (.str "value")))))
 (oRetV 3)
 oNext)
 (oRet (oRes (oTup (oCons (oC (.str "value")) (oCons (oFrz (oIf (oTst (oBin fEq (oPu (oFrz (oBin fIx (oVar 0) (oPu (oC (.int 0)))))) (oPu (oC (.str "plus"))))) (oBin fAdd (oPu (oFrz (oBin fIx (oVar 2) (oPu (oC (.int 1)))))) (oPu (oFrz (oBin fIx (oVar 3) (oPu (oC (.int 1))))))) (oBin fMulY (oPu (oFrz (oBin fIx (oVar 2) (oPu (oC (.int 1)))))) (oPu (oFrz (oBin fIx (oVar 3) (oPu (oC (.int 1))))))))) oNil)))))))))))
noncomputable def gn__law_due : Nat → Fn
  | 0 => fun _ => .st
  | n + 1 => fnOf 7 (b__law_due (gn__law_due n))
noncomputable def g__law_due : Fn := gn__law_due 14
theorem noXn__law_due : ∀ n, NoX (gn__law_due n)
  | 0 => fun _ _ _ h => by cases h
  | n + 1 => noX_fnOf _ _
theorem noX__law_due : NoX g__law_due := noXn__law_due _
theorem okn__law_due {P : Program} {w : World} {K : PySem.W.Frag} {mg : Str → Option Value} {base : Heap} {f : Addr} {fd : FuncData} (M : Mg K mg) (F : FnP K "_law_due" s__law_due f fd) (n : Nat) (gr : Fn) (c_rec : Cal P w K mg base (1 + n) "_law_due" ["size", "numbers"] gr) : FnOk P w K mg base CX0 (1 + n + 1) f fd ["size", "numbers"] (spD K 2 (fnOf 7 (b__law_due gr))) :=
  fn_ok F sc__law_due (by decide) (fun cdv A outer s H E hr G =>
  (bd_cons (sd_if (td_ck (ck_eq hr) (ed_pd (pd_rd (rd_ix (ed_var 0) (ed_pd pd_int)))) (ed_pd pd_str))
 (bd_one (sd_ret (rd_pd (pd_tup (qd_cons pd_str (qd_cons (pd_rd (rd_ix (ed_var 0) (ed_pd pd_int))) qd_nil))))))
 bd_nil)
 (bd_cons (sd_if (td_ck (ck_eq hr) (ed_pd (pd_rd (rd_ix (ed_var 0) (ed_pd pd_int)))) (ed_pd pd_str))
 (bd_cons (sd_setLc 4 (own := [("name", 5), ("number", 6)]) (T := ([5] ++ ([6] ++ []))) rfl sc__law_due.nd (by decide) rfl rfl (sw_true rfl rfl rfl (by decide +kernel)) (id_seq (ed_var 1)) (blkOk_by (N := N__law_due) (sc := defScope s__law_due) (by decide +kernel)) (fun _ _ _ _ _ _ => (gd_tup rfl (gds_cons (gd_name 5 sc__law_due.nd) (gds_cons (gd_name 6 sc__law_due.nd) gds_nil)))) (fun _ _ _ _ _ _ => (tsd_one (td_ck (ck_eq hr) (ed_var 5) (ed_pd (pd_rd (rd_ix (ed_var 0) (ed_pd pd_int))))))) (fun _ _ _ _ _ _ => (pd_ed (ed_var 6))))
 (bd_one (sd_ret (rd_pd (pd_ed (ed_if (td_ck ck_gt (ed_pd (pd_rd (rd_len rfl M.f_len (ed_var 4)))) (ed_pd pd_int)) (ed_pd (pd_tup (qd_cons pd_str (qd_cons (pd_rd (rd_ix (ed_var 4) (ed_pd pd_int))) qd_nil)))) (ed_pd (pd_tup (qd_cons pd_str (qd_cons (pd_rd (rd_ix (ed_var 0) (ed_pd pd_int))) qd_nil))))))))))
 bd_nil)
 (bd_cons (sd_set 2 (rd_cal c_rec hr (by omega) rfl (ad_cons (ed_pd (pd_rd (rd_ix (ed_var 0) (ed_pd pd_int)))) (ad_cons (ed_pd (pd_ed (ed_var 1))) ad_nil)) (many_cons (many_cons many_nil))) sc__law_due.nd)
 (bd_cons (sd_set 3 (rd_cal c_rec hr (by omega) rfl (ad_cons (ed_pd (pd_rd (rd_ix (ed_var 0) (ed_pd pd_int)))) (ad_cons (ed_pd (pd_ed (ed_var 1))) ad_nil)) (many_cons (many_cons many_nil))) sc__law_due.nd)
 (bd_cons (sd_if (td_ck (ck_ne hr) (ed_pd (pd_rd (rd_ix (ed_var 2) (ed_pd pd_int)))) (ed_pd pd_str))
 (bd_one (sd_retV 2))
 bd_nil)
 (bd_cons (sd_if (td_ck (ck_ne hr) (ed_pd (pd_rd (rd_ix (ed_var 3) (ed_pd pd_int)))) (ed_pd pd_str))
 (bd_one (sd_retV 3))
 bd_nil)
 (bd_one (sd_ret (rd_pd (pd_tup (qd_cons pd_str (qd_cons (pd_rd (rd_if (td_ck (ck_eq hr) (ed_pd (pd_rd (rd_ix (ed_var 0) (ed_pd pd_int)))) (ed_pd pd_str)) (rd_add (ed_pd (pd_rd (rd_ix (ed_var 2) (ed_pd pd_int)))) (ed_pd (pd_rd (rd_ix (ed_var 3) (ed_pd pd_int))))) (rd_mulY (ed_pd (pd_rd (rd_ix (ed_var 2) (ed_pd pd_int)))) (ed_pd (pd_rd (rd_ix (ed_var 3) (ed_pd pd_int))))))) qd_nil)))))))))))))
theorem oka__law_due {P : Program} {w : World} {K : PySem.W.Frag} {mg : Str → Option Value} {base : Heap} {f : Addr} {fd : FuncData} (M : Mg K mg) (F : FnP K "_law_due" s__law_due f fd) (e : mg "_law_due" = some (.ref f)) : ∀ n, FnOk P w K mg base CX0 (1 + n) f fd ["size", "numbers"] (spD K 2 (gn__law_due n))
  | 0 => fnOk_st
  | n + 1 => okn__law_due M F n (gn__law_due n) (Cal.of (oka__law_due M F e n) e F fun _ _ _ _ _ _ us hl => match us, hl with | [_, _], _ => rfl)
/-! _law_asked: 0 size, 1 numbers, 2 found, 3 e, 4 others -/
abbrev s__law_asked : Stmt := top 26
abbrev N__law_asked : List Str := ["size", "numbers", "found", "e", "others"]
theorem sc__law_asked : FnScope ["size", "numbers", "found", "e", "others"] ["size", "numbers"] (defScope s__law_asked) := ⟨rfl, rfl, rfl, by decide +kernel, rfl, by decide +kernel, by decide +kernel⟩
noncomputable def b__law_asked : Os := (oSeq (oTry 3 csL (oSet 2 (oCall g_size_value (oCons (oPu (oKeep (oVar 0))) (oCons (oPu (oKeep (oVar 1))) oNil))))
 (fun ea ey => (oSeq (oSet 4 (oLst (oCons (oXis (oKeep (oVar 3)) ea kitL ey "Twice") (oCons (oXis (oKeep (oVar 3)) ea kitL ey "Missing") (oCons (oXis (oKeep (oVar 3)) ea kitL ey "BadNumber") (oCons (oXis (oKeep (oVar 3)) ea kitL ey "TextError") oNil))))))
 (oSeq (oIfS (oOr (oTst (oCB fAny (oCons (oPu (oFrz (oBin fAdd (oVar 4) (oPu (oFrz (oLst (oCons (oXis (oKeep (oVar 3)) ea kitL ey "LimitError") oNil))))))) oNil))) (oNot (oTru (oPu (oXis (oKeep (oVar 3)) ea kitL ey "DesignError")))))
 (oRet (oRes (oTup (oCons (oC (.str "other")) (oCons (oC (.str "class")) oNil)))))
 oNext)
 (oSeq (oIfS (oOr (oNot (oTru (oPu (oXis (oKeep (oVar 3)) ea kitL ey "Unknown")))) (oOr (oTst (oBin fNe (oPu (oXat (oKeep (oVar 3)) ea ey "word")) (oPu (oC (.str "Unknown"))))) (oTst (oBin fNe (oPu (oXat (oKeep (oVar 3)) ea ey "told")) (oPu (oXat (oKeep (oVar 3)) ea ey "name"))))))
 (oRet (oRes (oTup (oCons (oC (.str "other")) (oCons (oC (.str "word")) oNil)))))
 oNext)
 (oRet (oRes (oTup (oCons (oC (.str "Unknown")) (oCons (oXat (oKeep (oVar 3)) ea ey "name") oNil))))))))))
 (oRet (oRes (oKeep (oIf (oTst (oCall g__law_is_int (oCons (oPu (oKeep (oVar 2))) oNil))) (oPu (oTup (oCons (oC (.str "value")) (oCons (oKeep (oVar 2)) oNil)))) (oPu (oTup (oCons (oC (.str "other")) (oCons (oC (.str "kind")) oNil)))))))))
noncomputable def g__law_asked : Fn := fnOf 5 b__law_asked
theorem ok__law_asked {P : Program} {w : World} {K : PySem.W.Frag} {mg : Str → Option Value} {base : Heap} {f : Addr} {fd : FuncData} (M : Mg K mg) (F : FnP K "_law_asked" s__law_asked f fd) (Q : Er P K mg) (c__law_is_int : Cal P w K mg base 1 "_law_is_int" ["thing"] g__law_is_int) (c_size_value : CalX P w K mg base 17 "size_value" ["size", "numbers"] g_size_value) : FnOk P w K mg base CX0 18 f fd ["size", "numbers"] (spD K 2 g__law_asked) :=
  fn_ok F sc__law_asked (by decide) (fun cdv A outer s H E hr G =>
  (bd_cons (sd_try (i := 3) rfl rfl sc__law_asked.nd rfl rfl ⟨rfl, by decide, Or.inl Q.c_FlowError.m⟩ (suf_es Q.sf (by decide) Q.c_FlowError.n)
 (fun W pn xe tk hpw => (bd_one (sd_set 2 (rd_calX c_size_value hr (by decide) rfl tk (ad_cons (ed_pd (pd_ed (ed_var 0))) (ad_cons (ed_pd (pd_ed (ed_var 1))) ad_nil)) (many_cons (many_cons many_nil))) sc__law_asked.nd)))
 (fun G' ea oe cls d pn ey hy ht hx hz hv => (bd_cons (sd_set 4 (rd_lst (qd_cons (pd_isO Q.sf hy ht hx hz.zc hv (by decide) rfl M.f_isinstance (pd_ed (ed_var 3)) rfl Q.c_Twice.m Q.c_Twice.n) (qd_cons (pd_isO Q.sf hy ht hx hz.zc hv (by decide) rfl M.f_isinstance (pd_ed (ed_var 3)) rfl Q.c_Missing.m Q.c_Missing.n) (qd_cons (pd_isO Q.sf hy ht hx hz.zc hv (by decide) rfl M.f_isinstance (pd_ed (ed_var 3)) rfl Q.c_BadNumber.m Q.c_BadNumber.n) (qd_cons (pd_isO Q.sf hy ht hx hz.zc hv (by decide) rfl M.f_isinstance (pd_ed (ed_var 3)) rfl Q.c_TextError.m Q.c_TextError.n) qd_nil))))) sc__law_asked.nd)
 (bd_cons (sd_if (td_w (wd_or (td_rd (zb_anyH (hotC_suite hz hv) rfl M.f_any (ad_cons (ed_pd (pd_rd (rd_add (ed_var 4) (ed_pd (pd_rd (rd_lst (qd_cons (pd_isO Q.sf hy ht hx hz.zc hv (by decide) rfl M.f_isinstance (pd_ed (ed_var 3)) rfl Q.c_LimitError.m Q.c_LimitError.n) qd_nil))))))) ad_nil))) (wd_or1 (td_not (td_tru (ed_pd (pd_isO Q.sf hy ht hx hz.zc hv (by decide) rfl M.f_isinstance (pd_ed (ed_var 3)) rfl Q.c_DesignError.m Q.c_DesignError.n)))))))
 (bd_one (sd_ret (rd_pd (pd_tup (qd_cons pd_str (qd_cons pd_str qd_nil))))))
 bd_nil)
 (bd_cons (sd_if (td_w (wd_or (td_not (td_tru (ed_pd (pd_isO Q.sf hy ht hx hz.zc hv (by decide) rfl M.f_isinstance (pd_ed (ed_var 3)) rfl Q.c_Unknown.m Q.c_Unknown.n)))) (wd_or (td_ck (ck_neU hr.units) (ed_pd (pd_xat Q.sf hy hx hz.zc hv (by decide) (pd_ed (ed_var 3)))) (ed_pd pd_str)) (wd_or1 (td_ck (ck_neU hr.units) (ed_pd (pd_xat Q.sf hy hx hz.zc hv (by decide) (pd_ed (ed_var 3)))) (ed_pd (pd_xat Q.sf hy hx hz.zc hv (by decide) (pd_ed (ed_var 3)))))))))
 (bd_one (sd_ret (rd_pd (pd_tup (qd_cons pd_str (qd_cons pd_str qd_nil))))))
 bd_nil)
 (bd_one (sd_ret (rd_pd (pd_tup (qd_cons pd_str (qd_cons (pd_xat Q.sf hy hx hz.zc hv (by decide) (pd_ed (ed_var 3))) qd_nil)))))))))))
 (bd_one (sd_ret (rd_pd (pd_ed (ed_if (td_rd (rd_cal c__law_is_int hr (by decide) rfl (ad_cons (ed_pd (pd_ed (ed_var 2))) ad_nil) (many_cons many_nil))) (ed_pd (pd_tup (qd_cons pd_str (qd_cons (pd_ed (ed_var 2)) qd_nil)))) (ed_pd (pd_tup (qd_cons pd_str (qd_cons pd_str qd_nil)))))))))))
/-! law: 0 script, 1 d, 2 pool, 3 names, 4 k, 5 count, 6 size, 7 one, 8 two, 9 numbers, 10 width -/
abbrev s_law : Stmt := top 27
abbrev N_law : List Str := ["script", "d", "pool", "names", "k", "count", "size", "one", "two", "numbers", "width"]
theorem sc_law : FnScope ["script", "d", "pool", "names", "k", "count", "size", "one", "two", "numbers", "width"] ["script"] (defScope s_law) := ⟨rfl, rfl, rfl, by decide +kernel, rfl, by decide +kernel, by decide +kernel⟩
noncomputable def L1_law : Os := (oSeq (oSet 10 (oCall g_address_width (oCons (oPu (oKeep (oVar 5))) oNil)))
 (oIfS (oOr (oNot (oTst (oCall g__law_is_int (oCons (oPu (oKeep (oVar 10))) oNil)))) (oTst (oBin fNe (oVar 10) (oPu (oFrz (oCB fMax2 (oCons (oPu (oC (.int 1))) (oCons (oPu (oBits (oFrz (oBin fSub (oVar 5) (oPu (oC (.int 1))))))) oNil))))))))
 (oRet (oRes (oC (.bool false))))
 oNext))
noncomputable def L2_law : Os := (oIfS (oTst (oBin fNe (oPu (oFrz (oCall g__law_asked (oCons (oPu (oKeep (oVar 6))) (oCons (oPu (oKeep (oVar 9))) oNil))))) (oPu (oFrz (oCall g__law_due (oCons (oPu (oKeep (oVar 6))) (oCons (oPu (oKeep (oVar 9))) oNil)))))))
 (oRet (oRes (oC (.bool false))))
 oNext)
noncomputable def L3_law : Os := (oSeq (oSet 6 (oIf (oTst (oCall g__law_rare (oCons (oVar 1) (oCons (oPu (oC (.int 4))) oNil)))) (oCall g__law_long_size (oCons (oVar 1) (oCons (oPu (oKeep (oVar 3))) oNil))) (oCall g__law_drawn_size (oCons (oVar 1) (oCons (oPu (oC (.int 4))) (oCons (oPu (oKeep (oVar 3))) oNil))))))
 (oSeq (oSet 7 (oCall g__law_numbers (oCons (oVar 1) (oCons (oPu (oKeep (oVar 3))) oNil))))
 (oSeq (oSet 8 (oCall g__law_numbers (oCons (oVar 1) (oCons (oPu (oKeep (oVar 3))) oNil))))
 (oFor (oItm (oPu (oFrz (oLst (oCons (oKeep (oVar 7)) (oCons (oKeep (oVar 8)) (oCons (oKeep (oVar 7)) (oCons (oTup oNil) (oCons (oKeep (oVar 8)) oNil))))))))) (gNm 9)
 L2_law))))
noncomputable def C1_law : O D := (oFrz (oCall g__law_pop (oCons (oVar 1) (oCons (oVar 2) oNil))))
noncomputable def b_law : Os := (oSeq (oSet 1 (oCall g__law_begin (oCons (oPu (oKeep (oVar 0))) oNil)))
 (oSeq (oSet 2 (oCall g__law_names oNil))
 (oSeq (oSet 3 (oLc [4] (oRange (oCons (oC (.int 7)) oNil)) (gNm 4) oYes C1_law))
 (oSeq (oFor (oRange (oCons (oC (.int 3)) oNil)) (gNm 4)
 L3_law)
 (oSeq (oFor (oItm (oPu (oFrz (oCall g__law_shuffled (oCons (oVar 1) (oCons (oPu (oFrz (oLst (oCons (oC (.int 1)) (oCons (oC (.int 2)) (oCons (oC (.int 3)) (oCons (oC (.int 4)) (oCons (oC (.int 5)) (oCons (oC (.int 6)) (oCons (oC (.int 7)) (oCons (oC (.int 8)) oNil))))))))))) oNil)))))) (gNm 5)
 L1_law)
 (oRet (oRes (oC (.bool true)))))))))
noncomputable def g_law : Fn := fnOf 11 b_law
theorem ok_law {P : Program} {w : World} {K : PySem.W.Frag} {mg : Str → Option Value} {base : Heap} {f : Addr} {fd : FuncData} (M : Mg K mg) (F : FnP K "law" s_law f fd) (c__law_asked : Cal P w K mg base 18 "_law_asked" ["size", "numbers"] g__law_asked) (c__law_begin : Cal P w K mg base 1 "_law_begin" ["script"] g__law_begin) (c__law_drawn_size : Cal P w K mg base 17 "_law_drawn_size" ["d", "depth", "names"] g__law_drawn_size) (c__law_due : Cal P w K mg base 15 "_law_due" ["size", "numbers"] g__law_due) (c__law_is_int : Cal P w K mg base 1 "_law_is_int" ["thing"] g__law_is_int) (c__law_long_size : Cal P w K mg base 18 "_law_long_size" ["d", "names"] g__law_long_size) (c__law_names : Cal P w K mg base 1 "_law_names" [] g__law_names) (c__law_numbers : Cal P w K mg base 3 "_law_numbers" ["d", "names"] g__law_numbers) (c__law_pop : Cal P w K mg base 2 "_law_pop" ["d", "row"] g__law_pop) (c__law_rare : Cal P w K mg base 2 "_law_rare" ["d", "many"] g__law_rare) (c__law_shuffled : Cal P w K mg base 2 "_law_shuffled" ["d", "row"] g__law_shuffled) (c_address_width : Cal P w K mg base 1 "address_width" ["count"] g_address_width) : FnOk P w K mg base CX0 19 f fd ["script"] (spD K 1 g_law) :=
  fn_ok F sc_law (by decide) (fun cdv A outer s H E hr G =>
  (bd_cons (sd_set 1 (rd_cal c__law_begin hr (by decide) rfl (ad_cons (ed_pd (pd_ed (ed_var 0))) ad_nil) (many_cons many_nil)) sc_law.nd)
 (bd_cons (sd_set 2 (rd_cal0 c__law_names hr (by decide) rfl) sc_law.nd)
 (bd_cons (sd_setLc 3 (own := [("k", 4)]) (T := [4]) rfl sc_law.nd (by decide) rfl rfl (sw_true rfl rfl rfl (by decide +kernel)) (id_range1 rfl M.f_range (qd_cons pd_int qd_nil)) (blkOk_by (N := N_law) (sc := defScope s_law) (by decide +kernel)) (fun _ _ _ _ _ _ => (gd_name 4 sc_law.nd)) (fun _ _ _ _ _ _ => tsd_nil) (fun _ _ _ _ _ _ => (pd_rd (rd_cal c__law_pop hr (by decide) rfl (ad_cons (ed_var 1) (ad_cons (ed_var 2) ad_nil)) (many_cons (many_cons many_nil))))))
 (bd_cons (sd_for PassesOwn.never rfl (id_range1 rfl M.f_range (qd_cons pd_int qd_nil)) (gd_name 4 sc_law.nd)
 (bd_cons (sd_set 6 (rd_if (td_rd (rd_cal c__law_rare hr (by decide) rfl (ad_cons (ed_var 1) (ad_cons (ed_pd pd_int) ad_nil)) (many_cons (many_cons many_nil)))) (rd_cal c__law_long_size hr (by decide) rfl (ad_cons (ed_var 1) (ad_cons (ed_pd (pd_ed (ed_var 3))) ad_nil)) (many_cons (many_cons many_nil))) (rd_cal c__law_drawn_size hr (by decide) rfl (ad_cons (ed_var 1) (ad_cons (ed_pd pd_int) (ad_cons (ed_pd (pd_ed (ed_var 3))) ad_nil))) (many_cons (many_cons (many_cons many_nil))))) sc_law.nd)
 (bd_cons (sd_set 7 (rd_cal c__law_numbers hr (by decide) rfl (ad_cons (ed_var 1) (ad_cons (ed_pd (pd_ed (ed_var 3))) ad_nil)) (many_cons (many_cons many_nil))) sc_law.nd)
 (bd_cons (sd_set 8 (rd_cal c__law_numbers hr (by decide) rfl (ad_cons (ed_var 1) (ad_cons (ed_pd (pd_ed (ed_var 3))) ad_nil)) (many_cons (many_cons many_nil))) sc_law.nd)
 (bd_one (sd_for PassesOwn.never rfl (id_seq (ed_pd (pd_rd (rd_lst (qd_cons (pd_ed (ed_var 7)) (qd_cons (pd_ed (ed_var 8)) (qd_cons (pd_ed (ed_var 7)) (qd_cons (pd_tup qd_nil) (qd_cons (pd_ed (ed_var 8)) qd_nil))))))))) (gd_name 9 sc_law.nd)
 (bd_one (sd_if (td_ck (ck_ne hr) (ed_pd (pd_rd (rd_cal c__law_asked hr (by decide) rfl (ad_cons (ed_pd (pd_ed (ed_var 6))) (ad_cons (ed_pd (pd_ed (ed_var 9))) ad_nil)) (many_cons (many_cons many_nil))))) (ed_pd (pd_rd (rd_cal c__law_due hr (by decide) rfl (ad_cons (ed_pd (pd_ed (ed_var 6))) (ad_cons (ed_pd (pd_ed (ed_var 9))) ad_nil)) (many_cons (many_cons many_nil))))))
 (bd_one (sd_ret (rd_pd pd_bool)))
 bd_nil))))))))
 (bd_cons (sd_for PassesOwn.never rfl (id_seq (ed_pd (pd_rd (rd_cal c__law_shuffled hr (by decide) rfl (ad_cons (ed_var 1) (ad_cons (ed_pd (pd_rd (rd_lst (qd_cons pd_int (qd_cons pd_int (qd_cons pd_int (qd_cons pd_int (qd_cons pd_int (qd_cons pd_int (qd_cons pd_int (qd_cons pd_int qd_nil))))))))))) ad_nil)) (many_cons (many_cons many_nil)))))) (gd_name 5 sc_law.nd)
 (bd_cons (sd_set 10 (rd_cal c_address_width hr (by decide) rfl (ad_cons (ed_pd (pd_ed (ed_var 5))) ad_nil) (many_cons many_nil)) sc_law.nd)
 (bd_one (sd_if (td_w (wd_or (td_not (td_rd (rd_cal c__law_is_int hr (by decide) rfl (ad_cons (ed_pd (pd_ed (ed_var 10))) ad_nil) (many_cons many_nil)))) (wd_or1 (td_ck (ck_ne hr) (ed_var 10) (ed_pd (pd_rd (zb_max2 rfl rfl M.f_max (ad_cons (ed_pd pd_int) (ad_cons (ed_pd (pd_bits (pd_rd (rd_sub (ed_var 5) (ed_pd pd_int))))) ad_nil)))))))))
 (bd_one (sd_ret (rd_pd pd_bool)))
 bd_nil))))
 (bd_one (sd_ret (rd_pd pd_bool)))))))))
end K05
namespace K05
open PySem Ow L2
abbrev dS (cs : List Int) (a b c e : Int) : Ct := .li [.list (cs.map .int), .int a, .int b, .int c, .int e]
theorem draw_st (cs : List Int) (a b c e m : Int) (ha : 0 ≤ a) (hm : 0 < m) (hm2 : m < 2 ^ 64) : ∃ r a' b' c', 
    g__law_draw [.ow true (dS cs a b c e), .pu (.int m)] = .ret (.pu (.int r)) [.ow true (dS cs a' b' c' e), .pu (.int m)] ∧ 0 ≤ a' ∧ 0 ≤ r ∧ r < m := by
  have hd : ∀ b, divOk b m = true := fun b => divOk_of hm hm2
  have hd2 : ∀ b, divOk b 2 = true := fun b => divOk_of (by decide) (by decide)
  have hd3 : ∀ b, divOk b 16 = true := fun b => divOk_of (by decide) (by decide)
  have hm1 : ∀ b, mulOk 2 b = true := fun b => mulOk_l (by decide) (by decide)
  have hm2' : ∀ b, mulOk b 48271 = true := fun b => mulOk_r (by decide) (by decide)
  have hm3 : ∀ b, mulOk b 16807 = true := fun b => mulOk_r (by decide) (by decide)
  have hm4 : ∀ b, mulOk b 69621 = true := fun b => mulOk_r (by decide) (by decide)
  have h6 : 0 < (2 : Int) ^ 6000 := Int.pow_pos (by decide)
  have hr : ∀ x : Int, 0 ≤ x % m ∧ x % m < m := fun x => ⟨Int.emod_nonneg _ (by omega), Int.emod_lt_of_pos _ hm⟩
  by_cases hb : 0 < b
  · refine ⟨b % m, a, b / m, c, ?_, ha, hr _⟩
    simp [g__law_draw, fnOf_eq, b__law_draw, ap_var, ap_retV, setSl_eq, stL, L2.ixN, hb, hd, hm]
  · by_cases hl : a < cs.length
    · have hlt : a.toNat < cs.length := by omega
      have hv := List.getElem?_eq_getElem hlt
      generalize hv2 : cs[a.toNat]'hlt = v at hv
      generalize hsz : 2 * (if v < 0 then -v else v) + (if v < 0 then 1 else 0) = sz
      by_cases hs : 2000000000000000000 ≤ sz
      · refine ⟨sz / 2 % 2 ^ 6000 % m, a + 1, sz / 2 % 2 ^ 6000 / m, c, ?_, by omega, hr _⟩
        simp [g__law_draw, fnOf_eq, b__law_draw, ap_var, ap_retV, setSl_eq, stL, L2.ixN, hb, hd, hm, hl, atI_nn ha, hd2, hd3, hm1, hm2', hm3, hm4, hv, hv2, hs, ha, h6, hsz]
      · refine ⟨(c * 48271 + sz % 2147483629 * 16807 + (a + 1) * 69621 + 11) % 2147483647 / 16 % m, a + 1, b, (c * 48271 + sz % 2147483629 * 16807 + (a + 1) * 69621 + 11) % 2147483647, ?_, by omega, hr _⟩
        simp [g__law_draw, fnOf_eq, b__law_draw, ap_var, ap_retV, setSl_eq, stL, L2.ixN, hb, hd, hm, hl, atI_nn ha, hd2, hd3, hm1, hm2', hm3, hm4, hv, hv2, hs, ha, hsz]
    · refine ⟨(c * 48271 + 0 % 2147483629 * 16807 + (a + 1) * 69621 + 11) % 2147483647 / 16 % m, a + 1, b, (c * 48271 + 0 % 2147483629 * 16807 + (a + 1) * 69621 + 11) % 2147483647, ?_, by omega, hr _⟩
      simp [g__law_draw, fnOf_eq, b__law_draw, ap_var, ap_retV, setSl_eq, stL, L2.ixN, hb, hd, hm, hl, atI_nn ha, hd2, hd3, hm1, hm2', hm3, hm4, ha]
def DOK (ds : List D) : Prop := ∃ (cs : List Int) (a b c e : Int), ds = [.list (cs.map .int), .int a, .int b, .int c, .int e] ∧ 0 ≤ a
theorem draw {ds : List D} (h : DOK ds) {m : Int} (hm : 0 < m) (hm2 : m < 2 ^ 64) : ∃ r ds', DOK ds' ∧ 0 ≤ r ∧ r < m ∧ g__law_draw [.ow true (.li ds), .pu (.int m)] = .ret (.pu (.int r)) [.ow true (.li ds'), .pu (.int m)] := by
  obtain ⟨cs, a, b, c, e, rfl, ha⟩ := h
  obtain ⟨r, a', b', c', h1, h2, h3, h4⟩ := draw_st cs a b c e m ha hm hm2
  exact ⟨r, _, ⟨cs, a', b', c', e, rfl, h2⟩, h3, h4, h1⟩
theorem begin_ok (ns : List Int) (hl : ns.length ≤ 63) : ∃ ds, DOK ds ∧ g__law_begin [.pu (scr (ns.map .int))] = .ret (.nw (.li ds)) [.pu (scr (ns.map .int))] := by
  refine ⟨_, ⟨ns, 0, 0, 7, 3, rfl, Int.le_refl _⟩, ?_⟩
  have h : lcL [1] (gNm 1) oYes C1__law_begin (ns.map PyData.int) [.pu (scr (ns.map .int)), .no] = .ok (ns.map PyData.int) [.pu (scr (ns.map .int)), .no] :=
    lcL_map fun i _ => ⟨[.pu (scr (ns.map .int)), .pu (.int i)], [.pu (scr (ns.map .int)), .pu (.int i)], rfl, by simp [C1__law_begin, ap_var], rfl⟩
  have hk : ns.length ≤ 16000000 := by omega
  simp [g__law_begin, fnOf_eq, b__law_begin, ap_var, lc1_eq, okW, loose, wipeR, restR, lcE, h, hk, scr]
theorem eqInt (i j : Int) : fEq (.int i) (.int j) = some (.pu (.bool (decide (i = j)))) := by
  unfold fEq
  rw [if_pos ⟨rfl, rfl⟩]
  simp [PyData.eqv, Bool.beq_eq_decide_eq]
theorem rare {ds : List D} (h : DOK ds) {m : Int} (hm : 0 < m) (hm2 : m < 2 ^ 64) : ∃ b ds', DOK ds' ∧ g__law_rare [.ow true (.li ds), .pu (.int m)] = .ret (.pu (.bool b)) [.ow true (.li ds'), .pu (.int m)] := by
  obtain ⟨r, ds', hd, hr, hr2, e⟩ := draw h hm hm2
  have h2 : divOk m 2 = true := divOk_of (by decide) (by decide)
  refine ⟨decide (r = m / 2), ds', hd, ?_⟩
  simp [g__law_rare, fnOf_eq, b__law_rare, ap_var, e, h2, eqInt]
theorem shuffled {ds : List D} (h : DOK ds) {xs : List D} (hl : xs.length ≤ 1000000) : ∃ ys ds', DOK ds' ∧ ys.Perm xs ∧ g__law_shuffled [.ow true (.li ds), .pu (.list xs)] = .ret (.nw (.li ys)) [.ow true (.li ds'), .pu (.list xs)] := by
  obtain ⟨ρ', e, ds', left, found, k4, rfl, hd', hn, hp, _⟩ := forL_inv (g := gNm 4) (b := L1__law_shuffled)
    (fun l ρ => ∃ ds left found k4, ρ = [.ow true (.li ds), .pu (.list xs), .ow false (.li left), .ow false (.li found), k4] ∧ DOK ds ∧ left.length = l.length ∧ (found ++ left).Perm xs ∧ okS (some k4) = true)
    (ds := rangeD 0 xs.length) (ρ := [.ow true (.li ds), .pu (.list xs), .ow false (.li xs), .ow false (.li []), .no]) (by
      rintro d l ρ _ ⟨ds, left, found, k4, rfl, hd, hn, hp, q4⟩
      rw [List.length_cons] at hn
      have hlen := hp.length_eq
      rw [List.length_append] at hlen
      obtain ⟨r, ds', hd', r0, r1, e⟩ := draw hd (m := left.length) (by omega) (by omega)
      have hr : r.toNat < left.length := by omega
      have hpop : fPopAt (.li left) [.int r] = some (.li (left.eraseIdx r.toNat), left[r.toNat]) := by
        rw [f_popAt, if_pos ⟨r0, by omega⟩, List.getElem?_eq_getElem hr]
        rfl
      have hfl : found.length < 16000000 := by omega
      generalize hx : left[r.toNat] = x at hpop
      refine ⟨[.ow true (.li ds), .pu (.list xs), .ow false (.li left), .ow false (.li found), .pu d], [.ow true (.li ds'), .pu (.list xs), .ow false (.li (left.eraseIdx r.toNat)), .ow false (.li (found ++ [x])), .pu d], by simp [setSl_ok, q4], .inl ?_, ds', _, _, _, rfl, hd', ?_, ?_, rfl⟩
      · have hlen2 : len1 (.rf 2) [.ow true (.li ds), .pu (.list xs), .ow false (.li left), .ow false (.li found), .pu d] = .ok (.pu (.int left.length)) [.ow true (.li ds), .pu (.list xs), .ow false (.li left), .ow false (.li found), .pu d] := rfl
        generalize ((left.length : Nat) : Int) = N at e hlen2
        generalize hE : left.eraseIdx r.toNat = E at hpop ⊢
        simp [-rg1_eq, -f_shl, -ap_range3, -List.map_replicate, ap_var, ap_retV, setSl_ok, fnOf_eq, bin1_eq, lc1_eq, okW, loose, wipeR, restR, lcE, wb1, wb2, wb3, wb4, wb5, wb6, wb7, L1__law_shuffled, hlen2, e, -f_popAt, hpop, hfl]
      · rw [List.length_eraseIdx, if_pos hr]; omega
      · rw [List.append_assoc, ← hx]
        exact (List.Perm.append_left found (erase_perm hr)).trans hp) ⟨ds, xs, [], _, rfl, h, by rw [rangeD_length], .refl _, rfl⟩
  have hl0 : left = [] := List.eq_nil_of_length_eq_zero hn
  subst hl0
  rw [List.append_nil] at hp
  refine ⟨found, ds', hd', hp, ?_⟩
  have hrg := fun ρ => rg1_nat (n := xs.length) (by omega) ρ
  have hlen2 : len1 (.rf 2) [.ow true (.li ds), .pu (.list xs), .ow false (.li xs), .ow false (.li []), .no] = .ok (.pu (.int xs.length)) [.ow true (.li ds), .pu (.list xs), .ow false (.li xs), .ow false (.li []), .no] := rfl
  generalize ((xs.length : Nat) : Int) = N at hrg hlen2
  simp [-rg1_eq, -f_shl, -ap_range3, -List.map_replicate, ap_var, ap_retV, setSl_ok, fnOf_eq, bin1_eq, lc1_eq, okW, loose, wipeR, restR, lcE, wb1, wb2, wb3, wb4, wb5, wb6, wb7, g__law_shuffled, b__law_shuffled, hlen2, hrg, e]
theorem pickL {ds : List D} (h : DOK ds) {xs : List D} (h0 : 0 < xs.length) (h1 : xs.length ≤ 16000000) : ∃ x ds', DOK ds' ∧ x ∈ xs ∧ g__law_pick [.ow true (.li ds), .pu (.list xs)] = .ret (.pu x) [.ow true (.li ds'), .pu (.list xs)] := by
  obtain ⟨r, ds', hd, hr, hr2, e⟩ := draw h (m := xs.length) (by omega) (by omega)
  have hlt : r.toNat < xs.length := by omega
  refine ⟨xs[r.toNat], ds', hd, List.getElem_mem hlt, ?_⟩
  simp [g__law_pick, fnOf_eq, b__law_pick, ap_var, h1, e, atI_nn hr, hlt]
end K05
namespace K05
open PySem Ow PyProof.Rows
/-! sizes -/
inductive Sz where
  | num (i : Int)
  | nm (x : Str)
  | op (p : Bool) (a b : Sz)
def opS : Bool → Str
  | true => "plus"
  | false => "times"
def szD : Sz → D
  | .num i => .tuple [.str "num", .int i]
  | .nm x => .tuple [.str "name", .str x]
  | .op p a b => .tuple [.str (opS p), szD a, szD b]
def dep : Sz → Nat
  | .num _ => 0
  | .nm _ => 0
  | .op _ a b => max (dep a) (dep b) + 1
def lv : Sz → Nat
  | .num _ => 1
  | .nm _ => 1
  | .op _ a b => lv a + lv b
abbrev SOk (x : Str) : Prop := PyData.strOk x = true
def SzOk : Sz → Prop
  | .num i => 0 ≤ i ∧ i < 256
  | .nm x => SOk x
  | .op _ a b => SzOk a ∧ SzOk b ∧ (lv a ≤ 8 ∨ lv b ≤ 8)
/-- a value, or the first name without one -/
inductive Rv where
  | va (i : Int)
  | un (x : Str)
def rv2 (p : Bool) (x : Int) : Rv → Rv
  | .un n => .un n
  | .va y => .va (if p then x + y else x * y)
def rv1 (p : Bool) (b : Rv) : Rv → Rv
  | .un n => .un n
  | .va x => rv2 p x b
def ev (t : Str → Option Int) : Sz → Rv
  | .num i => .va i
  | .nm x => match t x with
    | some v => .va v
    | none => .un x
  | .op p a b => rv1 p (ev t b) (ev t a)
theorem lv_pos : ∀ s : Sz, 1 ≤ lv s
  | .num _ => Nat.le_refl _
  | .nm _ => Nat.le_refl _
  | .op _ a b => by
    have := lv_pos a
    show 1 ≤ lv a + lv b
    omega
def TabOk (t : Str → Option Int) : Prop := ∀ x v, t x = some v → 0 ≤ v ∧ v < 256
theorem ev_bound {t : Str → Option Int} (ht : TabOk t) : ∀ (s : Sz) (v : Int), SzOk s → ev t s = .va v → 0 ≤ v ∧ v < 2 ^ (8 * lv s)
  | .num i, v, h, e => by
    cases e
    exact h
  | .nm x, v, h, e => by
    unfold ev at e
    split at e
    · cases e
      exact ht x _ ‹_›
    · cases e
  | .op p a b, v, h, e => by
    obtain ⟨ha, hb, _⟩ := h
    unfold ev at e
    cases e1 : ev t a with
    | un n => rw [e1] at e; cases e
    | va x =>
      rw [e1] at e
      cases e2 : ev t b with
      | un n => rw [e2] at e; cases e
      | va y =>
        rw [e2] at e
        obtain ⟨x0, x1⟩ := ev_bound ht a x ha e1
        obtain ⟨y0, y1⟩ := ev_bound ht b y hb e2
        have hl : (2 : Int) ^ (8 * lv (.op p a b)) = 2 ^ (8 * lv a) * 2 ^ (8 * lv b) := by
          rw [← Int.pow_add]
          congr 1
          show 8 * (lv a + lv b) = _
          omega
        rw [hl]
        have la := lv_pos a
        have lb := lv_pos b
        have p2 : ∀ n : Nat, 1 ≤ n → (256 : Int) ≤ 2 ^ (8 * n) := fun n hn => by
          have : (2 : Nat) ^ 8 ≤ 2 ^ (8 * n) := Nat.pow_le_pow_right (by decide) (by omega)
          exact_mod_cast this
        have pa := p2 (lv a) la
        have pb := p2 (lv b) lb
        generalize (2 : Int) ^ (8 * lv a) = A at *
        generalize (2 : Int) ^ (8 * lv b) = C at *
        have ev' : v = if p then x + y else x * y := by
          have e : Rv.va (if p then x + y else x * y) = .va v := e
          cases e
          rfl
        cases p with
        | true =>
          have : v = x + y := ev'
          subst this
          refine ⟨by omega, ?_⟩
          have : A * C ≥ 256 * C := Int.mul_le_mul_of_nonneg_right pa (by omega)
          have : A * C ≥ A * 256 := Int.mul_le_mul_of_nonneg_left pb (by omega)
          omega
        | false =>
          have : v = x * y := ev'
          subst this
          refine ⟨Int.mul_nonneg x0 y0, ?_⟩
          have h1 : x * y ≤ x * C := Int.mul_le_mul_of_nonneg_left (by omega) x0
          have h2 : x * C < A * C := Int.mul_lt_mul_of_pos_right x1 (by omega)
          omega
theorem mul_ok {t : Str → Option Int} (ht : TabOk t) {a b : Sz} {p : Bool} (h : SzOk (.op p a b)) {x y : Int} (e1 : ev t a = .va x) (e2 : ev t b = .va y) : mulOk x y = true := by
  obtain ⟨ha, hb, hl⟩ := h
  obtain ⟨x0, x1⟩ := ev_bound ht a x ha e1
  obtain ⟨y0, y1⟩ := ev_bound ht b y hb e2
  have p2 : ∀ n : Nat, n ≤ 8 → (2 : Int) ^ (8 * n) ≤ 2 ^ 64 := fun n hn => by
    have : (2 : Nat) ^ (8 * n) ≤ 2 ^ 64 := Nat.pow_le_pow_right (by decide) (by omega)
    exact_mod_cast this
  rcases hl with hl | hl
  · have := p2 _ hl
    exact mulOk_l (by omega) (by omega)
  · have := p2 _ hl
    exact mulOk_r (by omega) (by omega)
/-! texts compared -/
theorem shaped_str {x : Str} (h : SOk x) : SeqAt.shaped (.str x) = true := by
  show (PyData.canLay0 (.str x) && decide (PyData.depth (.str x) ≤ 64)) = true
  have h : PyData.strOk x = true := h
  simp [PyData.canLay0, PyData.depth, h]
theorem eqStr {i j : Str} (hi : SOk i) (hj : SOk j) : fEq (.str i) (.str j) = some (.pu (.bool (decide (i = j)))) := by
  unfold fEq
  rw [if_pos ⟨shaped_str hi, shaped_str hj⟩]
  by_cases h : i = j <;> simp [PyData.eqv, h]
theorem neStr {i j : Str} (hi : SOk i) (hj : SOk j) : fNe (.str i) (.str j) = some (.pu (.bool (!decide (i = j)))) := by
  unfold fNe
  rw [if_pos ⟨shaped_str hi, shaped_str hj⟩]
  by_cases h : i = j <;> simp [PyData.eqv, h]
theorem eqS_t {i j : Str} (h : (PyData.strOk i && PyData.strOk j && decide (i = j)) = true) : fEq (.str i) (.str j) = some (.pu (.bool true)) := by
  simp only [Bool.and_eq_true, decide_eq_true_eq] at h
  rw [eqStr h.1.1 h.1.2, decide_eq_true h.2]
theorem eqS_f {i j : Str} (h : (PyData.strOk i && PyData.strOk j && !decide (i = j)) = true) : fEq (.str i) (.str j) = some (.pu (.bool false)) := by
  simp only [Bool.and_eq_true, Bool.not_eq_true', decide_eq_false_iff_not] at h
  rw [eqStr h.1.1 h.1.2, decide_eq_false h.2]
theorem neS_t {i j : Str} (h : (PyData.strOk i && PyData.strOk j && !decide (i = j)) = true) : fNe (.str i) (.str j) = some (.pu (.bool true)) := by
  simp only [Bool.and_eq_true, Bool.not_eq_true', decide_eq_false_iff_not] at h
  rw [neStr h.1.1 h.1.2, decide_eq_false h.2]
  rfl
theorem neS_f {i j : Str} (h : (PyData.strOk i && PyData.strOk j && decide (i = j)) = true) : fNe (.str i) (.str j) = some (.pu (.bool false)) := by
  simp only [Bool.and_eq_true, decide_eq_true_eq] at h
  rw [neStr h.1.1 h.1.2, decide_eq_true h.2]
  rfl
theorem q_nn : fEq (.str "num") (.str "num") = some (.pu (.bool true)) := eqS_t (by decide +kernel)
theorem q_an : fEq (.str "name") (.str "num") = some (.pu (.bool false)) := eqS_f (by decide +kernel)
theorem q_aa : fEq (.str "name") (.str "name") = some (.pu (.bool true)) := eqS_t (by decide +kernel)
theorem q_on (p : Bool) : fEq (.str (opS p)) (.str "num") = some (.pu (.bool false)) := by cases p <;> exact eqS_f (by decide +kernel)
theorem q_oa (p : Bool) : fEq (.str (opS p)) (.str "name") = some (.pu (.bool false)) := by cases p <;> exact eqS_f (by decide +kernel)
theorem q_op (p : Bool) : fEq (.str (opS p)) (.str "plus") = some (.pu (.bool p)) := by
  cases p
  · exact eqS_f (by decide +kernel)
  · exact eqS_t (by decide +kernel)
/-! the given value -/
def errX (n : Str) : Xn := ⟨"Unknown", [("name", .str n), ("told", .str n), ("word", .str "Unknown")]⟩
def resF (s t : D) : Rv → Fr
  | .va v => .ret (.pu (.int v)) [.pu s, .pu t]
  | .un n => .exc (errX n) [.pu s, .pu t]
theorem raise_eq (x W p : Str) (o : O D) (z : Sl) (ρ : Rho) : oRaise x W p o (z :: ρ) = (o (z :: ρ)).bindS fun d ρ1 => .ex ⟨x, [(p, d), (("told" : Str), d), (("word" : Str), .str W)]⟩ ρ1 := rfl
theorem fnOfX_eq (n : Nat) (b : Os) (as : List Sl) : fnOfX n b as = match b (as ++ List.replicate (n - as.length) Sl.no) with
  | .nx ρ => .ret (.pu .none) (ρ.take as.length)
  | .rt r ρ => .ret r (ρ.take as.length)
  | .ex x ρ => .exc x (ρ.take as.length)
  | _ => .st := rfl
theorem gn_v (n : Nat) : gn_value_of (n + 1) = fnOfX 4 (b_value_of (gn_value_of n)) := rfl
def lkO (t : Str → Option Int) (kvs : List (L2.Key × D)) : Prop := ∀ x, lookK (kvs2 kvs) (.inr x) = (t x).map PyData.int
theorem inS_eq {t : Str → Option Int} {kvs : List (L2.Key × D)} (h : lkO t kvs) (x : Str) : fInS true (.str x) (stD kvs) = some (.pu (.bool (!(t x).isSome))) := by
  have := h x
  show some (Rs.pu (.bool (!(lookK (kvs2 kvs) (.inr x)).isSome))) = _
  rw [this]
  cases t x <;> rfl
theorem ixS_eq {t : Str → Option Int} {kvs : List (L2.Key × D)} (h : lkO t kvs) {x : Str} {v : Int} (e : t x = some v) : fIxS (stD kvs) (.str x) = some (.pu (.int v)) := by
  have := h x
  show (lookK (kvs2 kvs) (.inr x)).map Rs.pu = _
  rw [this, e]
  rfl
theorem value_ok {t : Str → Option Int} (ht : TabOk t) {kvs : List (L2.Key × D)} (hk : lkO t kvs) : ∀ (s : Sz) (n : Nat), SzOk s → dep s < n → gn_value_of n [.pu (szD s), .pu (stD kvs)] = resF (szD s) (stD kvs) (ev t s)
  | _, 0, _, h => absurd h (Nat.not_lt_zero _)
  | .num i, n + 1, _, _ => by
    rw [gn_v]
    generalize gn_value_of n = gr
    generalize stD kvs = T
    simp [-rg1_eq, -f_shl, -ap_range3, -List.map_replicate, ap_var, ap_retV, setSl_ok, fnOf_eq, bin1_eq, lc1_eq, okW, loose, wipeR, restR, lcE, wb1, wb2, wb3, wb4, wb5, wb6, wb7, b_value_of, fnOfX_eq, szD, q_nn, ev, resF]
  | .nm x, n + 1, _, _ => by
    have h1 := inS_eq hk x
    rw [gn_v]
    generalize gn_value_of n = gr
    cases e : t x with
    | none =>
      rw [e] at h1
      generalize stD kvs = T at *
      simp [-rg1_eq, -f_shl, -ap_range3, -List.map_replicate, ap_var, ap_retV, setSl_ok, fnOf_eq, bin1_eq, lc1_eq, okW, loose, wipeR, restR, lcE, wb1, wb2, wb3, wb4, wb5, wb6, wb7, b_value_of, fnOfX_eq, szD, q_an, q_aa, h1, raise_eq, ev, e, resF, errX]
    | some v =>
      rw [e] at h1
      have h2 := ixS_eq hk e
      generalize stD kvs = T at *
      simp [-rg1_eq, -f_shl, -ap_range3, -List.map_replicate, ap_var, ap_retV, setSl_ok, fnOf_eq, bin1_eq, lc1_eq, okW, loose, wipeR, restR, lcE, wb1, wb2, wb3, wb4, wb5, wb6, wb7, b_value_of, fnOfX_eq, szD, q_an, q_aa, h1, h2, ev, e, resF]
  | .op p a b, n + 1, h, hd => by
    have hd1 : max (dep a) (dep b) + 1 < n + 1 := hd
    have h1 := value_ok ht hk a n h.1 (by omega)
    have h2 := value_ok ht hk b n h.2.1 (by omega)
    have hm := fun x y e1 e2 => mul_ok (t := t) ht h (x := x) (y := y) e1 e2
    rw [gn_v]
    generalize gn_value_of n = gr at *
    unfold szD ev
    cases e1 : ev t a with
    | un m =>
      rw [e1] at h1
      generalize stD kvs = T at *
      generalize szD a = SA at *
      generalize szD b = SB at *
      simp [-rg1_eq, -f_shl, -ap_range3, -List.map_replicate, ap_var, ap_retV, setSl_ok, fnOf_eq, bin1_eq, lc1_eq, okW, loose, wipeR, restR, lcE, wb1, wb2, wb3, wb4, wb5, wb6, wb7, b_value_of, fnOfX_eq, q_on, q_oa, h1, resF, rv1]
    | va x =>
      rw [e1] at h1
      cases e2 : ev t b with
      | un m =>
        rw [e2] at h2
        generalize stD kvs = T at *
        generalize szD a = SA at *
        generalize szD b = SB at *
        simp [-rg1_eq, -f_shl, -ap_range3, -List.map_replicate, ap_var, ap_retV, setSl_ok, fnOf_eq, bin1_eq, lc1_eq, okW, loose, wipeR, restR, lcE, wb1, wb2, wb3, wb4, wb5, wb6, wb7, b_value_of, fnOfX_eq, q_on, q_oa, h1, h2, resF, rv1, rv2]
      | va y =>
        rw [e2] at h2
        have hm := hm x y e1 e2
        have hq := q_op p
        generalize stD kvs = T at *
        generalize szD a = SA at *
        generalize szD b = SB at *
        cases p <;> simp [-rg1_eq, -f_shl, -ap_range3, -List.map_replicate, ap_var, ap_retV, setSl_ok, fnOf_eq, bin1_eq, lc1_eq, okW, loose, wipeR, restR, lcE, wb1, wb2, wb3, wb4, wb5, wb6, wb7, b_value_of, fnOfX_eq, q_on, q_oa, hq, h1, h2, hm, resF, rv1, rv2]
end K05
namespace K05
open PySem Ow PyProof.Rows
/-! numbers -/
def prD (p : Str × Int) : D := .tuple [.str p.1, .int p.2]
def nuD (nu : List (Str × Int)) : D := .tuple (nu.map prD)
def fst (nu : List (Str × Int)) (x : Str) : Option Int := ((nu.filter fun p => decide (p.1 = x)).map (·.2)).head?
structure NuOk (nu : List (Str × Int)) : Prop where
  nd : (nu.map (·.1)).Nodup
  ok : ∀ p ∈ nu, SOk p.1 ∧ 0 ≤ p.2 ∧ p.2 < 256
  len : nu.length ≤ 100
theorem fst_cons (p : Str × Int) (nu : List (Str × Int)) (x : Str) : fst (p :: nu) x = if p.1 = x then some p.2 else fst nu x := by
  unfold fst
  by_cases h : p.1 = x <;> simp [h]
theorem fst_tab {nu : List (Str × Int)} (h : NuOk nu) : TabOk (fst nu) := fun x v e => by
  unfold fst at e
  have hm := List.mem_of_mem_head? (by rw [e]; rfl : v ∈ ((nu.filter fun p => decide (p.1 = x)).map (·.2)).head?)
  obtain ⟨p, hp, rfl⟩ := List.mem_map.mp hm
  exact (h.ok p (List.mem_filter.mp hp).1).2
def kvN (nu : List (Str × Int)) : List (L2.Key × D) := nu.map fun p => (Sum.inr p.1, PyData.int p.2)
theorem kvN_lk (nu : List (Str × Int)) : lkO (fst nu) (kvN nu) := fun x => by
  induction nu with
  | nil => rfl
  | cons p nu ih =>
    rw [fst_cons]
    show (if keyIs (PyData.str p.1) (.inr x) = true then some (PyData.int p.2) else lookK (kvs2 (kvN nu)) (.inr x)) = _
    rw [ih]
    by_cases h : p.1 = x <;> simp [keyIs, h]
theorem put_new {nu : List (Str × Int)} {p : Str × Int} (h : p.1 ∉ nu.map (·.1)) : putD (kvN nu) (Sum.inr p.1) (.int p.2) = kvN (nu ++ [p]) := by
  have h1 : ((kvN nu).any fun kv => decide (kv.1 = Sum.inr p.1)) = false := by
    rw [List.any_eq_false]
    intro kv hkv
    obtain ⟨q, hq, rfl⟩ := List.mem_map.mp hkv
    intro e
    have e2 : (Sum.inr q.1 : L2.Key) = .inr p.1 := by simpa using e
    exact h (by rw [← Sum.inr.inj e2]; exact List.mem_map.mpr ⟨q, hq, rfl⟩)
  unfold putD
  rw [h1]
  unfold kvN
  rw [List.map_append]
  rfl
abbrev gPr : D → Rho → Option Rho := gTp 2 (gCn (gNm 2) (gCn (gNm 3) gNl))
theorem dc_nums (a b : Sl) : ∀ (nu acc : List (Str × Int)), ((acc ++ nu).map (·.1)).Nodup → (acc ++ nu).length ≤ 100 → dcL [2, 3] gPr oYes K1_size_value V1_size_value (nu.map prD) (kvN acc) [a, b, .no, .no] = .ok (kvN (acc ++ nu)) [a, b, .no, .no]
  | [], acc, _, _ => by rw [List.append_nil]; rfl
  | p :: nu, acc, hn, hl => by
    have e : acc ++ p :: nu = (acc ++ [p]) ++ nu := by simp
    have hp : p.1 ∉ acc.map (·.1) := by
      intro hm
      rw [List.map_append, List.map_cons, List.nodup_append] at hn
      exact hn.2.2 p.1 hm p.1 List.mem_cons_self rfl
    have ih := dc_nums a b nu (acc ++ [p]) (by rw [← e]; exact hn) (by rw [← e]; exact hl)
    have h1 : gPr (prD p) [a, b, .no, .no] = some [a, b, .pu (.str p.1), .pu (.int p.2)] := by
      simp [gPr, prD, setSl_ok]
    have h2 : K1_size_value [a, b, .pu (.str p.1), .pu (.int p.2)] = .ok (.str p.1) [a, b, .pu (.str p.1), .pu (.int p.2)] := by simp [-rg1_eq, -f_shl, -ap_range3, -List.map_replicate, ap_var, ap_retV, setSl_ok, fnOf_eq, bin1_eq, lc1_eq, okW, loose, wipeR, restR, lcE, wb1, wb2, wb3, wb4, wb5, wb6, wb7, K1_size_value]
    have h3 : V1_size_value [a, b, .pu (.str p.1), .pu (.int p.2)] = .ok (.int p.2) [a, b, .pu (.str p.1), .pu (.int p.2)] := by simp [-rg1_eq, -f_shl, -ap_range3, -List.map_replicate, ap_var, ap_retV, setSl_ok, fnOf_eq, bin1_eq, lc1_eq, okW, loose, wipeR, restR, lcE, wb1, wb2, wb3, wb4, wb5, wb6, wb7, V1_size_value]
    have h4 : (kvN acc).length < 16000000 := by
      unfold kvN
      rw [List.length_map]
      rw [List.length_append] at hl
      omega
    rw [List.map_cons]
    unfold dcL
    rw [h1]
    dsimp only
    rw [oYes_eq]
    dsimp only
    rw [h2]
    dsimp only
    rw [h3]
    show (if (kvN acc).length < 16000000 then dcL [2, 3] gPr oYes K1_size_value V1_size_value (nu.map prD) (putD (kvN acc) (Sum.inr p.1) (.int p.2)) (wipeR [a, b, .pu (.str p.1), .pu (.int p.2)] [2, 3]) else .st) = _
    rw [if_pos h4, put_new hp, e, ← ih]
    rfl
theorem itm_nu (nu : List (Str × Int)) (ρ : Rho) : itm1 (.pu (nuD nu)) ρ = .ok (nu.map prD) ρ := rfl
def resA (s t : D) : Rv → Fr
  | .va v => .ret (.pu (.int v)) [.pu s, .pu t]
  | .un n => .exc (errX n) [.pu s, .pu t]
theorem size_value_ok {nu : List (Str × Int)} (h : NuOk nu) {s : Sz} (hs : SzOk s) (hd : dep s < 14) : g_size_value [.pu (szD s), .pu (nuD nu)] = resF (szD s) (nuD nu) (ev (fst nu) s) := by
  have h1 : g_value_of [.pu (szD s), .pu (stD (kvN nu))] = _ := value_ok (fst_tab h) (kvN_lk nu) s 14 hs hd
  have h2 := dc_nums (.pu (szD s)) (.pu (nuD nu)) nu [] (by rw [List.nil_append]; exact h.nd) (by rw [List.nil_append]; exact h.len)
  rw [List.nil_append] at h2
  have h0 : kvN [] = [] := rfl
  rw [h0] at h2
  have hi := itm_nu nu
  generalize kvN nu = KV at *
  generalize nu.map prD = PP at *
  generalize szD s = S at *
  generalize nuD nu = N at *
  cases e : ev (fst nu) s with
  | va v =>
    rw [e] at h1
    simp [-rg1_eq, -f_shl, -ap_range3, -List.map_replicate, ap_var, ap_retV, setSl_ok, fnOf_eq, bin1_eq, lc1_eq, okW, loose, wipeR, restR, lcE, wb1, wb2, wb3, wb4, wb5, wb6, wb7, g_size_value, b_size_value, fnOfX_eq, hi, dc1_eq, dcE, h2, h1, resF]
  | un n =>
    rw [e] at h1
    simp [-rg1_eq, -f_shl, -ap_range3, -List.map_replicate, ap_var, ap_retV, setSl_ok, fnOf_eq, bin1_eq, lc1_eq, okW, loose, wipeR, restR, lcE, wb1, wb2, wb3, wb4, wb5, wb6, wb7, g_size_value, b_size_value, fnOfX_eq, hi, dc1_eq, dcE, h2, h1, resF]
end K05
namespace K05
open PySem Ow PyProof.Rows
def resD : Rv → D
  | .va v => .tuple [.str "value", .int v]
  | .un n => .tuple [.str "Unknown", .str n]
theorem gn_d (n : Nat) : gn__law_due (n + 1) = fnOf 7 (b__law_due (gn__law_due n)) := rfl
theorem q_vv : fNe (.str "value") (.str "value") = some (.pu (.bool false)) := neS_f (by decide +kernel)
theorem q_uv : fNe (.str "Unknown") (.str "value") = some (.pu (.bool true)) := neS_t (by decide +kernel)
theorem due_lc (gr : Fn) {nu : List (Str × Int)} (h : NuOk nu) {x : Str} (hx : SOk x) : lcL [5, 6] (gTp 2 (gCn (gNm 5) (gCn (gNm 6) gNl))) (T1__law_due gr) (C1__law_due gr) (nu.map prD) [.pu (szD (.nm x)), .pu (nuD nu), .no, .no, .no, .no, .no] = .ok (((nu.filter fun p => decide (p.1 = x)).map (·.2)).map PyData.int) [.pu (szD (.nm x)), .pu (nuD nu), .no, .no, .no, .no, .no] := by
  have := lcL_filter (vs := [5, 6]) (g := gTp 2 (gCn (gNm 5) (gCn (gNm 6) gNl))) (ot := T1__law_due gr) (oe := C1__law_due gr) (ρ := [.pu (szD (.nm x)), .pu (nuD nu), .no, .no, .no, .no, .no]) (k := prD) (p := fun p => decide (p.1 = x)) (f := fun p => PyData.int p.2) (l := nu) fun p hp => by
    have he := eqStr (h.ok p hp).1 hx
    have hz : szD (.nm x) = .tuple [.str "name", .str x] := rfl
    rw [hz]
    generalize nuD nu = N
    refine ⟨[.pu (.tuple [.str "name", .str x]), .pu N, .no, .no, .no, .pu (.str p.1), .pu (.int p.2)], [.pu (.tuple [.str "name", .str x]), .pu N, .no, .no, .no, .pu (.str p.1), .pu (.int p.2)], by simp [prD, setSl_ok], by simp [-rg1_eq, -f_shl, -ap_range3, -List.map_replicate, ap_var, ap_retV, setSl_ok, fnOf_eq, bin1_eq, lc1_eq, okW, loose, wipeR, restR, lcE, wb1, wb2, wb3, wb4, wb5, wb6, wb7, T1__law_due, he], fun _ => ⟨[.pu (.tuple [.str "name", .str x]), .pu N, .no, .no, .no, .pu (.str p.1), .pu (.int p.2)], by simp [-rg1_eq, -f_shl, -ap_range3, -List.map_replicate, ap_var, ap_retV, setSl_ok, fnOf_eq, bin1_eq, lc1_eq, okW, loose, wipeR, restR, lcE, wb1, wb2, wb3, wb4, wb5, wb6, wb7, C1__law_due], by simp [wipeR]⟩, fun _ => by simp [wipeR]⟩
  rw [this, List.map_map]
  rfl
theorem due_ok {nu : List (Str × Int)} (h : NuOk nu) : ∀ (s : Sz) (n : Nat), SzOk s → dep s < n → gn__law_due n [.pu (szD s), .pu (nuD nu)] = .ret (.pu (resD (ev (fst nu) s))) [.pu (szD s), .pu (nuD nu)]
  | _, 0, _, h => absurd h (Nat.not_lt_zero _)
  | .num i, n + 1, _, _ => by
    rw [gn_d]
    generalize gn__law_due n = gr
    generalize nuD nu = T
    simp [-rg1_eq, -f_shl, -ap_range3, -List.map_replicate, ap_var, ap_retV, setSl_ok, fnOf_eq, bin1_eq, lc1_eq, okW, loose, wipeR, restR, lcE, wb1, wb2, wb3, wb4, wb5, wb6, wb7, b__law_due, szD, q_nn, ev, resD]
  | .nm x, n + 1, hx, _ => by
    rw [gn_d]
    have h1 := due_lc (gn__law_due n) h (x := x) hx
    have hi := itm_nu nu
    have hlen : (nu.map prD).length ≤ 16000000 := by rw [List.length_map]; have := h.len; omega
    generalize gn__law_due n = gr at *
    generalize nu.map prD = PP at *
    unfold szD at *
    unfold ev fst
    generalize (nu.filter fun p => decide (p.1 = x)).map (·.2) = R at *
    generalize nuD nu = T at *
    cases R with
    | nil =>
      simp [-rg1_eq, -f_shl, -ap_range3, -List.map_replicate, ap_var, ap_retV, setSl_ok, fnOf_eq, bin1_eq, lc1_eq, okW, loose, wipeR, restR, lcE, wb1, wb2, wb3, wb4, wb5, wb6, wb7, b__law_due, q_an, q_aa, hi, h1, hlen, resD, len1_rf]
    | cons v R =>
      have hl : (0 : Int) < ((R.length : Nat) : Int) + 1 := by omega
      simp [-rg1_eq, -f_shl, -ap_range3, -List.map_replicate, ap_var, ap_retV, setSl_ok, fnOf_eq, bin1_eq, lc1_eq, okW, loose, wipeR, restR, lcE, wb1, wb2, wb3, wb4, wb5, wb6, wb7, b__law_due, q_an, q_aa, hi, h1, hlen, resD, len1_rf, hl, L2.atI, L2.ixN]
  | .op p a b, n + 1, hs, hd => by
    have hd1 : max (dep a) (dep b) + 1 < n + 1 := hd
    have h1 := due_ok h a n hs.1 (by omega)
    have h2 := due_ok h b n hs.2.1 (by omega)
    have hm := fun x y e1 e2 => mul_ok (t := fst nu) (fst_tab h) hs (x := x) (y := y) e1 e2
    rw [gn_d]
    generalize gn__law_due n = gr at *
    unfold szD ev
    cases e1 : ev (fst nu) a with
    | un m =>
      rw [e1] at h1
      cases e2 : ev (fst nu) b with
      | un m2 =>
        rw [e2] at h2
        generalize nuD nu = T at *
        generalize szD a = SA at *
        generalize szD b = SB at *
        simp [-rg1_eq, -f_shl, -ap_range3, -List.map_replicate, ap_var, ap_retV, setSl_ok, fnOf_eq, bin1_eq, lc1_eq, okW, loose, wipeR, restR, lcE, wb1, wb2, wb3, wb4, wb5, wb6, wb7, b__law_due, q_on, q_oa, h1, h2, resD, rv1, q_uv]
      | va y =>
        rw [e2] at h2
        generalize nuD nu = T at *
        generalize szD a = SA at *
        generalize szD b = SB at *
        simp [-rg1_eq, -f_shl, -ap_range3, -List.map_replicate, ap_var, ap_retV, setSl_ok, fnOf_eq, bin1_eq, lc1_eq, okW, loose, wipeR, restR, lcE, wb1, wb2, wb3, wb4, wb5, wb6, wb7, b__law_due, q_on, q_oa, h1, h2, resD, rv1, q_uv]
    | va x =>
      rw [e1] at h1
      cases e2 : ev (fst nu) b with
      | un m =>
        rw [e2] at h2
        generalize nuD nu = T at *
        generalize szD a = SA at *
        generalize szD b = SB at *
        simp [-rg1_eq, -f_shl, -ap_range3, -List.map_replicate, ap_var, ap_retV, setSl_ok, fnOf_eq, bin1_eq, lc1_eq, okW, loose, wipeR, restR, lcE, wb1, wb2, wb3, wb4, wb5, wb6, wb7, b__law_due, q_on, q_oa, h1, h2, resD, rv1, rv2, q_vv, q_uv]
      | va y =>
        rw [e2] at h2
        have hm := hm x y e1 e2
        have hq := q_op p
        generalize nuD nu = T at *
        generalize szD a = SA at *
        generalize szD b = SB at *
        cases p <;> simp [-rg1_eq, -f_shl, -ap_range3, -List.map_replicate, ap_var, ap_retV, setSl_ok, fnOf_eq, bin1_eq, lc1_eq, okW, loose, wipeR, restR, lcE, wb1, wb2, wb3, wb4, wb5, wb6, wb7, b__law_due, q_on, q_oa, hq, h1, h2, hm, resD, rv1, rv2, q_vv]
/-! asked -/
theorem ev_sok {t : Str → Option Int} : ∀ (s : Sz) (n : Str), SzOk s → ev t s = .un n → SOk n
  | .num i, n, _, h => by cases h
  | .nm x, n, hx, h => by
    unfold ev at h
    split at h
    · cases h
    · cases h; exact hx
  | .op p a b, n, hs, h => by
    unfold ev at h
    cases e1 : ev t a with
    | un m =>
      rw [e1] at h
      have h : Rv.un m = .un n := h
      cases h
      exact ev_sok a _ hs.1 e1
    | va x =>
      rw [e1] at h
      cases e2 : ev t b with
      | un m =>
        rw [e2] at h
        have h : Rv.un m = .un n := h
        cases h
        exact ev_sok b _ hs.2.1 e2
      | va y => rw [e2] at h; cases h
theorem xat_eq (o : O D) (a : Addr) (y : Xn) (f : Str) (z : Sl) (ρ : Rho) : oXat o a y f (z :: ρ) = (o (z :: ρ)).bind fun d ρ1 => if isHnd a d = true then (match y.told.lookup f with | some v => .ok v ρ1 | none => .st) else .st := rfl
theorem xis_eq (o : O D) (a : Addr) (kit : Kit) (y : Xn) (T : Str) (z : Sl) (ρ : Rho) : oXis o a kit y T (z :: ρ) = (o (z :: ρ)).bind fun d ρ1 => if isHnd a d = true then (match kitT kit y.cls T with | some b => .ok (.bool b) ρ1 | none => .st) else .st := rfl
theorem err_cls (n : Str) : (errX n).cls = "Unknown" := rfl
theorem err_told (n : Str) : (errX n).told.isEmpty = false := rfl
theorem lk_name (n : Str) : (errX n).told.lookup ("name" : Str) = some (PyData.str n) := rfl
theorem lk_told (n : Str) : (errX n).told.lookup ("told" : Str) = some (PyData.str n) := rfl
theorem lk_word (n : Str) : (errX n).told.lookup ("word" : Str) = some (PyData.str "Unknown") := rfl
theorem truB (b : Bool) : fTru (.bool b) = some b := rfl
theorem any5 : fAny [.list [.bool false, .bool false, .bool false, .bool false, .bool false]] = some (.pu (.bool false)) := rfl
theorem is_int_ok (i : Int) : g__law_is_int [.pu (.int i)] = .ret (.pu (.bool true)) [.pu (.int i)] := by
  have h1 : ∀ ρ, isi1 "int" (.pu (.int i)) ρ = .ok (.pu (.bool true)) ρ := fun ρ => rfl
  have h2 : ∀ ρ, isi1 "bool" (.pu (.int i)) ρ = .ok (.pu (.bool false)) ρ := fun ρ => rfl
  simp [-rg1_eq, -f_shl, -ap_range3, -List.map_replicate, ap_var, ap_retV, setSl_ok, fnOf_eq, bin1_eq, lc1_eq, okW, loose, wipeR, restR, lcE, wb1, wb2, wb3, wb4, wb5, wb6, wb7, g__law_is_int, b__law_is_int, h1, h2]
noncomputable abbrev obA : Os := (oSet 2 (oCall g_size_value (oCons (oPu (oKeep (oVar 0))) (oCons (oPu (oKeep (oVar 1))) oNil))))
theorem asked_ok {nu : List (Str × Int)} (h : NuOk nu) {s : Sz} (hs : SzOk s) (hd : dep s < 14) : g__law_asked [.pu (szD s), .pu (nuD nu)] = .ret (.pu (resD (ev (fst nu) s))) [.pu (szD s), .pu (nuD nu)] := by
  have h1 := size_value_ok h hs hd
  cases e : ev (fst nu) s with
  | va v =>
    rw [e] at h1
    generalize szD s = S at *
    generalize nuD nu = N at *
    have hob : obA [.pu S, .pu N, .no, .no, .no] = .nx [.pu S, .pu N, .pu (.int v), .no, .no] := by simp [-rg1_eq, -f_shl, -ap_range3, -List.map_replicate, ap_var, ap_retV, setSl_ok, fnOf_eq, bin1_eq, lc1_eq, okW, loose, wipeR, restR, lcE, wb1, wb2, wb3, wb4, wb5, wb6, wb7, h1, resF]
    have ht := fun S' => oTry_ok (i := 3) (cs := csL) (S := S') (ob := obA) (ρ := [.pu S, .pu N, .no, .no, .no]) (by rw [hob]; intro x ρ1 e; cases e)
    rw [hob] at ht
    have hi := is_int_ok v
    simp [-rg1_eq, -f_shl, -ap_range3, -List.map_replicate, ap_var, ap_retV, setSl_ok, fnOf_eq, bin1_eq, lc1_eq, okW, loose, wipeR, restR, lcE, wb1, wb2, wb3, wb4, wb5, wb6, wb7, g__law_asked, b__law_asked, ht, hi, resD]
  | un n =>
    rw [e] at h1
    have hn := ev_sok s n hs e
    have hne := neStr hn hn
    rw [decide_eq_true rfl] at hne
    generalize szD s = S at *
    generalize nuD nu = N at *
    have hob : obA [.pu S, .pu N, .no, .no, .no] = .ex (errX n) [.pu S, .pu N, .no, .no, .no] := by simp [-rg1_eq, -f_shl, -ap_range3, -List.map_replicate, ap_var, ap_retV, setSl_ok, fnOf_eq, bin1_eq, lc1_eq, okW, loose, wipeR, restR, lcE, wb1, wb2, wb3, wb4, wb5, wb6, wb7, h1, resF]
    have ht := fun S' m => oTry_ex (i := 3) (cs := csL) (S := S') (m := m) hob cs_Unknown (err_told n)
    have k1 := kit_Unknown_Twice
    have k2 := kit_Unknown_Missing
    have k3 := kit_Unknown_BadNumber
    have k4 := kit_Unknown_TextError
    have k5 := kit_Unknown_LimitError
    have k6 := kit_Unknown_DesignError
    have k7 := kit_Unknown_Unknown
    have l0 := err_cls n
    have l1 := lk_name n
    have l2 := lk_told n
    have l3 := lk_word n
    have l4 : fNe (.str "Unknown") (.str "Unknown") = some (.pu (.bool false)) := neS_f (by decide +kernel)
    have l5 := any5
    unfold g__law_asked
    rw [fnOf_eq]
    unfold b__law_asked
    have hx : ∀ (T1 T2 : Os) (m : Mo), T1 [.pu S, .pu N, .no, .no, .no] = m → oSeq T1 T2 [.pu S, .pu N, .no, .no, .no] = m.then T2 := fun T1 T2 m e => by rw [← e]; rfl
    have hfin : [Sl.pu S, Sl.pu N] ++ List.replicate (5 - [Sl.pu S, Sl.pu N].length) Sl.no = [.pu S, .pu N, .no, .no, .no] := rfl
    rw [hfin]
    rw [hx _ _ (.rt (.pu (.tuple [.str "Unknown", .str n])) [.pu S, .pu N, .no, .no, .ow false (.li [.bool false, .bool false, .bool false, .bool false])]) (ht _ _ fun a => by
      have hh := isHnd_self a
      generalize errX n = E at *
      generalize hnd a = HA at *
      generalize kitL = KL at *
      simp [-rg1_eq, -f_shl, -ap_range3, -List.map_replicate, ap_var, ap_retV, setSl_ok, fnOf_eq, bin1_eq, lc1_eq, okW, loose, wipeR, restR, lcE, wb1, wb2, wb3, wb4, wb5, wb6, wb7, xat_eq, xis_eq, hh, k1, k2, k3, k4, k5, k6, k7, l0, l1, l2, l3, l4, l5, hne, Ow.strip, truB])]
    rfl
end K05
namespace K05
open PySem Ow PyProof.Rows
structure NmsOk (names : List Str) : Prop where
  len : names.length ≤ 50
  pos : 0 < names.length
  ok : ∀ x ∈ names, SOk x
theorem gn_z (n : Nat) : gn__law_drawn_size (n + 1) = fnOf 6 (b__law_drawn_size (gn__law_drawn_size n)) := rfl
theorem pick2 {r : Int} (h0 : 0 ≤ r) (h1 : r < 2) : ∃ p : Bool, fIx (.list [.str "plus", .str "times"]) (.int r) = some (.pu (.str (opS p))) := by
  have h : r = 0 ∨ r = 1 := by omega
  rcases h with rfl | rfl
  · exact ⟨true, rfl⟩
  · exact ⟨false, rfl⟩
theorem op_d (p : Bool) (a b : Sz) : PyData.tuple [.str (opS p), szD a, szD b] = szD (.op p a b) := rfl
theorem num_pick {ds : List D} (h : DOK ds) : ∃ i ds', DOK ds' ∧ 0 ≤ i ∧ i < 256 ∧ ∃ x ds1, g__law_draw [.ow true (.li ds), .pu (.int 256)] = .ret (.pu (.int x)) [.ow true (.li ds1), .pu (.int 256)] ∧
    g__law_pick [.ow true (.li ds1), .pu (.list [.int 0, .int 1, .int 2, .int 7, .int 255, .int x])] = .ret (.pu (.int i)) [.ow true (.li ds'), .pu (.list [.int 0, .int 1, .int 2, .int 7, .int 255, .int x])] := by
  obtain ⟨x, d1, hd1, x0, x1, e1⟩ := draw h (m := 256) (by decide) (by decide)
  obtain ⟨y, d2, hd2, hy, e2⟩ := pickL hd1 (xs := [.int 0, .int 1, .int 2, .int 7, .int 255, .int x]) (by simp) (by simp)
  obtain ⟨i, rfl, i0, i1⟩ : ∃ i : Int, y = .int i ∧ 0 ≤ i ∧ i < 256 := by
    simp only [List.mem_cons, List.not_mem_nil, or_false] at hy
    rcases hy with rfl | rfl | rfl | rfl | rfl | rfl
    · exact ⟨_, rfl, by decide, by decide⟩
    · exact ⟨_, rfl, by decide, by decide⟩
    · exact ⟨_, rfl, by decide, by decide⟩
    · exact ⟨_, rfl, by decide, by decide⟩
    · exact ⟨_, rfl, by decide, by decide⟩
    · exact ⟨_, rfl, x0, x1⟩
  exact ⟨i, d2, hd2, i0, i1, x, d1, e1, e2⟩
theorem name_pick {ds : List D} (h : DOK ds) {names : List Str} (hn : NmsOk names) : ∃ x ds', DOK ds' ∧ SOk x ∧ g__law_pick [.ow true (.li ds), .pu (.list (names.map .str))] = .ret (.pu (.str x)) [.ow true (.li ds'), .pu (.list (names.map .str))] := by
  obtain ⟨y, d2, hd2, hy, e2⟩ := pickL h (xs := names.map PyData.str) (by rw [List.length_map]; exact hn.pos) (by rw [List.length_map]; have := hn.len; omega)
  obtain ⟨x, hx, rfl⟩ := List.mem_map.mp hy
  exact ⟨x, d2, hd2, hn.ok x hx, e2⟩
theorem drawn_ok {names : List Str} (hn : NmsOk names) : ∀ (n k : Nat) {ds : List D}, DOK ds → k < n → k ≤ 4 → ∃ s ds', DOK ds' ∧ SzOk s ∧ dep s ≤ k ∧ lv s ≤ 2 ^ k ∧
    gn__law_drawn_size n [.ow true (.li ds), .pu (.int ((k : Nat) : Int)), .pu (.list (names.map .str))] = .ret (.pu (szD s)) [.ow true (.li ds'), .pu (.int ((k : Nat) : Int)), .pu (.list (names.map .str))]
  | 0, k, _, _, h, _ => absurd h (Nat.not_lt_zero _)
  | n + 1, k, ds, hd, hk, hk4 => by
    obtain ⟨m, hm, hm0, hm1⟩ : ∃ m : Int, m = (if (0 : Int) < ((k : Nat) : Int) then 8 else 4) ∧ 0 < m ∧ m < 2 ^ 64 := ⟨_, rfl, by split <;> decide, by split <;> decide⟩
    obtain ⟨r, d1, hd1, r0, r1, e1⟩ := draw hd hm0 hm1
    rw [gn_z]
    by_cases h2 : r < 2
    · obtain ⟨i, d2, hd2, i0, i1, x, d3, e2, e3⟩ := num_pick hd1
      refine ⟨.num i, d2, hd2, ⟨i0, i1⟩, Nat.zero_le _, Nat.one_le_two_pow, ?_⟩
      generalize gn__law_drawn_size n = gr
      generalize names.map PyData.str = NN at *
      by_cases hk0 : (0 : Int) < ((k : Nat) : Int)
      · rw [if_pos hk0] at hm
        subst hm
        generalize ((k : Nat) : Int) = K at *
        simp [-rg1_eq, -f_shl, -ap_range3, -List.map_replicate, ap_var, ap_retV, setSl_ok, fnOf_eq, bin1_eq, lc1_eq, okW, loose, wipeR, restR, lcE, wb1, wb2, wb3, wb4, wb5, wb6, wb7, b__law_drawn_size, hk0, e1, h2, e2, e3, szD]
      · rw [if_neg hk0] at hm
        subst hm
        generalize ((k : Nat) : Int) = K at *
        simp [-rg1_eq, -f_shl, -ap_range3, -List.map_replicate, ap_var, ap_retV, setSl_ok, fnOf_eq, bin1_eq, lc1_eq, okW, loose, wipeR, restR, lcE, wb1, wb2, wb3, wb4, wb5, wb6, wb7, b__law_drawn_size, hk0, e1, h2, e2, e3, szD]
    by_cases h4 : r < 4
    · obtain ⟨x, d2, hd2, hx, e2⟩ := name_pick hd1 hn
      refine ⟨.nm x, d2, hd2, hx, Nat.zero_le _, Nat.one_le_two_pow, ?_⟩
      generalize gn__law_drawn_size n = gr
      generalize names.map PyData.str = NN at *
      by_cases hk0 : (0 : Int) < ((k : Nat) : Int)
      · rw [if_pos hk0] at hm
        subst hm
        generalize ((k : Nat) : Int) = K at *
        simp [-rg1_eq, -f_shl, -ap_range3, -List.map_replicate, ap_var, ap_retV, setSl_ok, fnOf_eq, bin1_eq, lc1_eq, okW, loose, wipeR, restR, lcE, wb1, wb2, wb3, wb4, wb5, wb6, wb7, b__law_drawn_size, hk0, e1, h2, h4, e2, szD]
      · rw [if_neg hk0] at hm
        subst hm
        generalize ((k : Nat) : Int) = K at *
        simp [-rg1_eq, -f_shl, -ap_range3, -List.map_replicate, ap_var, ap_retV, setSl_ok, fnOf_eq, bin1_eq, lc1_eq, okW, loose, wipeR, restR, lcE, wb1, wb2, wb3, wb4, wb5, wb6, wb7, b__law_drawn_size, hk0, e1, h2, h4, e2, szD]
    obtain ⟨j, rfl⟩ : ∃ j, k = j + 1 := by
      cases k with
      | zero =>
        rw [if_neg (by decide)] at hm
        omega
      | succ j => exact ⟨j, rfl⟩
    have hk0 : (0 : Int) < ((j + 1 : Nat) : Int) := by omega
    rw [if_pos hk0] at hm
    subst hm
    obtain ⟨a, d2, hd2, ha, da, la, e2⟩ := drawn_ok hn n j hd1 (by omega) (by omega)
    obtain ⟨b, d3, hd3, hb, db, lb, e3⟩ := drawn_ok hn n j hd2 (by omega) (by omega)
    obtain ⟨q, d4, hd4, q0, q1, e4⟩ := draw hd3 (m := 2) (by decide) (by decide)
    obtain ⟨p, e5⟩ := pick2 q0 q1
    have hp : (2 : Nat) ^ j ≤ 2 ^ 3 := Nat.pow_le_pow_right (by decide) (by omega)
    refine ⟨.op p a b, d4, hd4, ⟨ha, hb, .inl (by omega)⟩, by show max (dep a) (dep b) + 1 ≤ _; omega, by show lv a + lv b ≤ _; rw [Nat.pow_succ]; omega, ?_⟩
    have hj : ((j + 1 : Nat) : Int) - 1 = ((j : Nat) : Int) := by omega
    have hz := op_d p a b
    generalize gn__law_drawn_size n = gr at *
    generalize names.map PyData.str = NN at *
    generalize szD (.op p a b) = SR at *
    generalize szD a = SA at *
    generalize szD b = SB at *
    generalize ((j + 1 : Nat) : Int) = K at *
    generalize ((j : Nat) : Int) = J at *
    generalize opS p = P at *
    simp [-rg1_eq, -f_shl, -ap_range3, -List.map_replicate, ap_var, ap_retV, setSl_ok, fnOf_eq, bin1_eq, lc1_eq, okW, loose, wipeR, restR, lcE, wb1, wb2, wb3, wb4, wb5, wb6, wb7, b__law_drawn_size, hk0, e1, h2, h4, hj, e2, e3, e4, -ix_l, e5, hz]
theorem drawn {names : List Str} (hn : NmsOk names) (k : Nat) {ds : List D} (hd : DOK ds) (hk : k ≤ 4) : ∃ s ds', DOK ds' ∧ SzOk s ∧ dep s ≤ k ∧ lv s ≤ 2 ^ k ∧
    g__law_drawn_size [.ow true (.li ds), .pu (.int ((k : Nat) : Int)), .pu (.list (names.map .str))] = .ret (.pu (szD s)) [.ow true (.li ds'), .pu (.int ((k : Nat) : Int)), .pu (.list (names.map .str))] := drawn_ok hn 14 k hd (by omega) hk
theorem long_step {names : List Str} (hn : NmsOk names) {ds : List D} (hd : DOK ds) {s : Sz} (hs : SzOk s) (i : Nat) (s4 s5 : Sl) (q4 : Nw s4) (q5 : Nw s5) : ∃ s' ds' s4' s5', DOK ds' ∧ SzOk s' ∧ dep s' ≤ max (dep s) 1 + 1 ∧ Nw s4' ∧ Nw s5' ∧
    L1__law_long_size [.ow true (.li ds), .pu (.list (names.map .str)), .pu (szD s), .pu (.int ((i : Nat) : Int)), s4, s5] = .nx [.ow true (.li ds'), .pu (.list (names.map .str)), .pu (szD s'), .pu (.int ((i : Nat) : Int)), s4', s5'] := by
  obtain ⟨k, hk, hk1⟩ : ∃ k : Nat, fIntX [.bool (decide ((0 : Int) < ((i : Nat) : Int)))] = some (.pu (.int ((k : Nat) : Int))) ∧ k ≤ 1 := by
    by_cases h : (0 : Int) < ((i : Nat) : Int)
    · exact ⟨1, by rw [decide_eq_true h]; rfl, Nat.le_refl _⟩
    · exact ⟨0, by rw [decide_eq_false h]; rfl, by decide⟩
  obtain ⟨o, d1, hd1, ho, do_, lo, e1⟩ := drawn hn k hd (by omega)
  obtain ⟨q, d2, hd2, q0, q1, e2⟩ := draw hd1 (m := 2) (by decide) (by decide)
  obtain ⟨p, e3⟩ := pick2 q0 q1
  obtain ⟨w, d3, hd3, w0, w1, e4⟩ := draw hd2 (m := 2) (by decide) (by decide)
  have hp : (2 : Nat) ^ k ≤ 2 ^ 1 := Nat.pow_le_pow_right (by decide) hk1
  have z1 := op_d p s o
  have z2 := op_d p o s
  have he := eqInt w 0
  unfold Nw at q4 q5
  generalize names.map PyData.str = NN at *
  by_cases h : w = 0
  · refine ⟨.op p s o, d3, .pu (szD o), .pu (.str (opS p)), hd3, ⟨hs, ho, .inr (by omega)⟩, by show max (dep s) (dep o) + 1 ≤ _; omega, nw_pu _, nw_pu _, ?_⟩
    rw [decide_eq_true h] at he
    generalize szD (.op p s o) = SR at *
    generalize szD s = SA at *
    generalize szD o = SB at *
    generalize opS p = P at *
    generalize ((i : Nat) : Int) = I at *
    generalize ((k : Nat) : Int) = K at *
    simp [-rg1_eq, -f_shl, -ap_range3, -List.map_replicate, ap_var, ap_retV, setSl_ok, fnOf_eq, bin1_eq, lc1_eq, okW, loose, wipeR, restR, lcE, wb1, wb2, wb3, wb4, wb5, wb6, wb7, L1__law_long_size, hk, q4, q5, e1, e2, -ix_l, e3, e4, he, z1]
  · refine ⟨.op p o s, d3, .pu (szD o), .pu (.str (opS p)), hd3, ⟨ho, hs, .inl (by omega)⟩, by show max (dep o) (dep s) + 1 ≤ _; omega, nw_pu _, nw_pu _, ?_⟩
    rw [decide_eq_false h] at he
    generalize szD (.op p o s) = SR at *
    generalize szD s = SA at *
    generalize szD o = SB at *
    generalize opS p = P at *
    generalize ((i : Nat) : Int) = I at *
    generalize ((k : Nat) : Int) = K at *
    simp [-rg1_eq, -f_shl, -ap_range3, -List.map_replicate, ap_var, ap_retV, setSl_ok, fnOf_eq, bin1_eq, lc1_eq, okW, loose, wipeR, restR, lcE, wb1, wb2, wb3, wb4, wb5, wb6, wb7, L1__law_long_size, hk, q4, q5, e1, e2, -ix_l, e3, e4, he, z2]
theorem long {names : List Str} (hn : NmsOk names) {ds : List D} (hd : DOK ds) : ∃ s ds', DOK ds' ∧ SzOk s ∧ dep s < 14 ∧
    g__law_long_size [.ow true (.li ds), .pu (.list (names.map .str))] = .ret (.pu (szD s)) [.ow true (.li ds'), .pu (.list (names.map .str))] := by
  obtain ⟨s0, d1, hd1, h0, dp0, _, e0⟩ := drawn hn 1 hd (by omega)
  obtain ⟨ρ', e1, d2, s, j, k3, s4, s5, rfl, hd2, hs, hdp, hj, _, _, _⟩ := forL_inv (g := gNm 3) (b := L1__law_long_size)
    (fun l ρ => ∃ ds s j k3 s4 s5, ρ = [.ow true (.li ds), .pu (.list (names.map .str)), .pu (szD s), k3, s4, s5] ∧ DOK ds ∧ SzOk s ∧ dep s ≤ 1 + j ∧ j + l.length = 11 ∧ Nw k3 ∧ Nw s4 ∧ Nw s5)
    (ds := rangeD 0 11) (ρ := [.ow true (.li d1), .pu (.list (names.map .str)), .pu (szD s0), .no, .no, .no]) (by
      rintro d l ρ hmem ⟨ds, s, j, k3, s4, s5, rfl, hd, hs, hdp, hj, q3, q4, q5⟩
      rw [rangeD_map] at hmem
      obtain ⟨i, _, rfl⟩ := List.mem_map.mp hmem
      rw [List.length_cons] at hj
      obtain ⟨s', ds', s4', s5', hd', hs', hdp', q4', q5', e⟩ := long_step hn hd hs i s4 s5 q4 q5
      refine ⟨[.ow true (.li ds), .pu (.list (names.map .str)), .pu (szD s), .pu (.int ((i : Nat) : Int)), s4, s5], _, ?_, .inl e, ds', s', j + 1, _, s4', s5', rfl, hd', hs', by omega, by omega, nw_pu _, q4', q5'⟩
      unfold Nw at q3
      simp [setSl_ok, q3]) ⟨d1, s0, 0, _, _, _, rfl, hd1, h0, by omega, by rw [rangeD_length], nw_no, nw_no, nw_no⟩
  rw [List.length_nil, Nat.add_zero] at hj
  refine ⟨s, d2, hd2, hs, by omega, ?_⟩
  have hrg : ∀ ρ, rg1 [.int 11] ρ = .ok (rangeD 0 11) ρ := fun ρ => rg1_nat (n := 11) (by omega) ρ
  have e0' : g__law_drawn_size [.ow true (.li ds), .pu (.int 1), .pu (.list (names.map .str))] = .ret (.pu (szD s0)) [.ow true (.li d1), .pu (.int 1), .pu (.list (names.map .str))] := e0
  generalize rangeD 0 11 = R at *
  generalize names.map PyData.str = NN at *
  generalize szD s0 = S0 at *
  generalize szD s = S1 at *
  simp [-rg1_eq, -f_shl, -ap_range3, -List.map_replicate, ap_var, ap_retV, setSl_ok, fnOf_eq, bin1_eq, lc1_eq, okW, loose, wipeR, restR, lcE, wb1, wb2, wb3, wb4, wb5, wb6, wb7, g__law_long_size, b__law_long_size, e0', hrg, e1]
end K05
namespace K05
open PySem Ow PyProof.Rows
theorem val_pick {ds : List D} (h : DOK ds) : ∃ i ds', DOK ds' ∧ 0 ≤ i ∧ i < 256 ∧ ∃ x ds1, g__law_draw [.ow true (.li ds), .pu (.int 256)] = .ret (.pu (.int x)) [.ow true (.li ds1), .pu (.int 256)] ∧
    g__law_pick [.ow true (.li ds1), .pu (.list [.int 0, .int 1, .int 2, .int 255, .int x])] = .ret (.pu (.int i)) [.ow true (.li ds'), .pu (.list [.int 0, .int 1, .int 2, .int 255, .int x])] := by
  obtain ⟨x, d1, hd1, x0, x1, e1⟩ := draw h (m := 256) (by decide) (by decide)
  obtain ⟨y, d2, hd2, hy, e2⟩ := pickL hd1 (xs := [.int 0, .int 1, .int 2, .int 255, .int x]) (by simp) (by simp)
  obtain ⟨i, rfl, i0, i1⟩ : ∃ i : Int, y = .int i ∧ 0 ≤ i ∧ i < 256 := by
    simp only [List.mem_cons, List.not_mem_nil, or_false] at hy
    rcases hy with rfl | rfl | rfl | rfl | rfl
    · exact ⟨_, rfl, by decide, by decide⟩
    · exact ⟨_, rfl, by decide, by decide⟩
    · exact ⟨_, rfl, by decide, by decide⟩
    · exact ⟨_, rfl, by decide, by decide⟩
    · exact ⟨_, rfl, x0, x1⟩
  exact ⟨i, d2, hd2, i0, i1, x, d1, e1, e2⟩
theorem num_step {names : List Str} {ds : List D} (hd : DOK ds) {nu : List (Str × Int)} (hl : nu.length ≤ 100) (x : Str) : ∃ ds' nu', DOK ds' ∧ (nu' = nu ∨ ∃ i, nu' = nu ++ [(x, i)] ∧ 0 ≤ i ∧ i < 256) ∧ L1__law_numbers [.ow true (.li ds), .pu (.list (names.map .str)), .ow false (.li (nu.map prD)), .pu (.str x)] = .nx [.ow true (.li ds'), .pu (.list (names.map .str)), .ow false (.li (nu'.map prD)), .pu (.str x)] := by
  obtain ⟨r, d1, hd1, r0, r1, e1⟩ := draw hd (m := 4) (by decide) (by decide)
  by_cases h : 0 < r
  · obtain ⟨i, d2, hd2, i0, i1, y, d3, e2, e3⟩ := val_pick hd1
    refine ⟨d2, nu ++ [(x, i)], hd2, .inr ⟨i, rfl, i0, i1⟩, ?_⟩
    have hlen : (nu.map prD).length < 16000000 := by rw [List.length_map]; omega
    have hz : (nu ++ [(x, i)]).map prD = nu.map prD ++ [.tuple [.str x, .int i]] := by rw [List.map_append]; rfl
    rw [hz]
    generalize nu.map prD = PP at *
    generalize names.map PyData.str = NN at *
    simp [-rg1_eq, -f_shl, -ap_range3, -List.map_replicate, ap_var, ap_retV, setSl_ok, fnOf_eq, bin1_eq, lc1_eq, okW, loose, wipeR, restR, lcE, wb1, wb2, wb3, wb4, wb5, wb6, wb7, L1__law_numbers, e1, h, e2, e3, hlen]
  · refine ⟨d1, nu, hd1, .inl rfl, ?_⟩
    generalize nu.map prD = PP at *
    generalize names.map PyData.str = NN at *
    simp [-rg1_eq, -f_shl, -ap_range3, -List.map_replicate, ap_var, ap_retV, setSl_ok, fnOf_eq, bin1_eq, lc1_eq, okW, loose, wipeR, restR, lcE, wb1, wb2, wb3, wb4, wb5, wb6, wb7, L1__law_numbers, e1, h]
def unS : D → Str
  | .str x => x
  | _ => ""
theorem perm_strs {zs ns : List Str} (h : (zs.map PyData.str).Perm (ns.map PyData.str)) : zs.Perm ns := by
  have h2 := h.map unS
  rw [List.map_map, List.map_map] at h2
  have e : ∀ xs : List Str, xs.map (unS ∘ PyData.str) = xs := fun xs => by
    have : (unS ∘ PyData.str) = id := rfl
    rw [this, List.map_id]
  rwa [e, e] at h2
theorem strs_of {ys : List D} {ns : List Str} (h : ys.Perm (ns.map PyData.str)) : ∃ zs : List Str, ys = zs.map PyData.str ∧ zs.Perm ns := by
  obtain ⟨zs, rfl, _⟩ := ex_map (f := PyData.str) (Q := fun _ => True) (ys := ys) fun y hy => by
    obtain ⟨x, hx, rfl⟩ := List.mem_map.mp (h.mem_iff.mp hy)
    exact ⟨x, rfl, trivial⟩
  exact ⟨zs, rfl, perm_strs h⟩
theorem num_loop {names : List Str} : ∀ (zs : List Str) {ds : List D} (nu : List (Str × Int)) (s3 : Sl), DOK ds → Nw s3 → (nu.map (·.1) ++ zs).Nodup → (∀ p ∈ nu, SOk p.1 ∧ 0 ≤ p.2 ∧ p.2 < 256) → (∀ z ∈ zs, SOk z) → nu.length + zs.length ≤ 100 →
    ∃ ds' nu' s3', DOK ds' ∧ NuOk nu' ∧ forL (gNm 3) L1__law_numbers (zs.map .str) [.ow true (.li ds), .pu (.list (names.map .str)), .ow false (.li (nu.map prD)), s3] = .nx [.ow true (.li ds'), .pu (.list (names.map .str)), .ow false (.li (nu'.map prD)), s3']
  | [], ds, nu, s3, hd, q3, hn, hp, _, hl => by
    rw [List.append_nil] at hn
    exact ⟨ds, nu, s3, hd, ⟨hn, hp, by simpa using hl⟩, rfl⟩
  | z :: zs, ds, nu, s3, hd, q3, hn, hp, hz, hl => by
    rw [List.length_cons] at hl
    obtain ⟨d1, nu1, hd1, h1, e1⟩ := num_step (names := names) hd (nu := nu) (by omega) z
    have hn1 : (nu1.map (·.1) ++ zs).Nodup ∧ (∀ p ∈ nu1, SOk p.1 ∧ 0 ≤ p.2 ∧ p.2 < 256) ∧ nu1.length + zs.length ≤ 100 := by
      rcases h1 with rfl | ⟨i, rfl, i0, i1⟩
      · refine ⟨hn.sublist ?_, hp, by omega⟩
        exact (List.Sublist.refl _).append (List.sublist_cons_self _ _)
      · refine ⟨?_, fun p hpp => ?_, by rw [List.length_append, List.length_singleton]; omega⟩
        · have : (nu ++ [(z, i)]).map (·.1) ++ zs = nu.map (·.1) ++ z :: zs := by simp
          rw [this]
          exact hn
        · rcases List.mem_append.mp hpp with h | h
          · exact hp p h
          · rw [List.mem_singleton.mp h]
            exact ⟨hz z List.mem_cons_self, i0, i1⟩
    obtain ⟨d2, nu2, s3', hd2, h2, e2⟩ := num_loop zs nu1 (.pu (.str z)) hd1 (nw_pu _) hn1.1 hn1.2.1 (fun y hy => hz y (List.mem_cons_of_mem _ hy)) hn1.2.2
    refine ⟨d2, nu2, s3', hd2, h2, ?_⟩
    have hg : gNm 3 (.str z) [.ow true (.li ds), .pu (.list (names.map .str)), .ow false (.li (nu.map prD)), s3] = some [.ow true (.li ds), .pu (.list (names.map .str)), .ow false (.li (nu.map prD)), .pu (.str z)] := by
      unfold Nw at q3
      simp [setSl_ok, q3]
    rw [List.map_cons, forL_cons, hg]
    dsimp only
    rw [e1]
    exact e2
theorem numbers {names : List Str} (hn : NmsOk names) (hnd : names.Nodup) {ds : List D} (hd : DOK ds) : ∃ nu ds', DOK ds' ∧ NuOk nu ∧ g__law_numbers [.ow true (.li ds), .pu (.list (names.map .str))] = .ret (.pu (nuD nu)) [.ow true (.li ds'), .pu (.list (names.map .str))] := by
  obtain ⟨ys, d1, hd1, hp, e1⟩ := shuffled hd (xs := names.map PyData.str) (by rw [List.length_map]; have := hn.len; omega)
  obtain ⟨zs, rfl, hz⟩ := strs_of hp
  obtain ⟨d2, nu, s3, hd2, hnu, e2⟩ := num_loop (names := names) zs [] .no hd1 nw_no (by simpa using hz.nodup_iff.mpr hnd) (fun p h => by cases h) (fun z h => hn.ok z (hz.mem_iff.mp h)) (by have := hz.length_eq; have := hn.len; simp; omega)
  refine ⟨nu, d2, hd2, hnu, ?_⟩
  have h0 : ([] : List (Str × Int)).map prD = [] := rfl
  rw [h0] at e2
  have hw : nuD nu = .tuple (nu.map prD) := rfl
  rw [hw]
  generalize nu.map prD = PP at *
  generalize names.map PyData.str = NN at *
  generalize zs.map PyData.str = ZZ at *
  simp [-rg1_eq, -f_shl, -ap_range3, -List.map_replicate, ap_var, ap_retV, setSl_ok, fnOf_eq, bin1_eq, lc1_eq, okW, loose, wipeR, restR, lcE, wb1, wb2, wb3, wb4, wb5, wb6, wb7, g__law_numbers, b__law_numbers, e1, e2]
/-! the least width -/
def aw (c : Int) : Int := if c ≤ 2 then 1 else if c ≤ 4 then 2 else 3
theorem width_ok {c : Int} (h0 : 1 ≤ c) (h8 : c ≤ 8) : g_address_width [.pu (.int c)] = .ret (.pu (.int (aw c))) [.pu (.int c)] := by
  have sh : ∀ w : Int, 1 ≤ w → w ≤ 3 → fShl (.int 1) (.int w) = some (.pu (.int (2 ^ w.toNat))) := fun w a b => by
    have h : w = 1 ∨ w = 2 ∨ w = 3 := by omega
    rcases h with rfl | rfl | rfl <;> rfl
  obtain ⟨ρ', e, h⟩ := while_inv (c := W1_address_width) (b := L1_address_width) (ρ := [.pu (.int c), .pu (.int 1)])
    (fun ρ => ∃ w : Int, ρ = [.pu (.int c), .pu (.int w)] ∧ 1 ≤ w ∧ w ≤ 3 ∧ w ≤ aw c) (fun ρ => ρ = [.pu (.int c), .pu (.int (aw c))]) (fun ρ => match ρ with | [_, .pu (.int w)] => (4 - w).toNat | _ => 0)
    ⟨1, rfl, by decide, by decide, by unfold aw; split <;> (try split) <;> omega⟩ (by
      rintro ρ ⟨w, rfl, w1, w3, wa⟩
      have hs := sh w w1 w3
      have hlt : (2 : Int) ^ w.toNat < c ↔ w < aw c := by
        have h : w = 1 ∨ w = 2 ∨ w = 3 := by omega
        unfold aw at *
        rcases h with rfl | rfl | rfl
        · show (2 : Int) < c ↔ _
          split <;> (try split) <;> omega
        · show (4 : Int) < c ↔ _
          split at wa <;> (try split at wa) <;> split <;> (try split) <;> omega
        · show (8 : Int) < c ↔ _
          split at wa <;> (try split at wa) <;> split <;> (try split) <;> omega
      generalize (2 : Int) ^ w.toNat = T at *
      by_cases h : T < c
      · have hw := hlt.mp h
        have ha3 : aw c ≤ 3 := by unfold aw; split <;> (try split) <;> omega
        refine .inr ⟨[.pu (.int c), .pu (.int w)], [.pu (.int c), .pu (.int (w + 1))], ?_, .inl ?_, ⟨w + 1, rfl, by omega, by omega, by omega⟩, ?_⟩
        · simp [-rg1_eq, -f_shl, -ap_range3, -List.map_replicate, ap_var, ap_retV, setSl_ok, fnOf_eq, bin1_eq, lc1_eq, okW, loose, wipeR, restR, lcE, wb1, wb2, wb3, wb4, wb5, wb6, wb7, W1_address_width, hs, h]
        · simp [-rg1_eq, -f_shl, -ap_range3, -List.map_replicate, ap_var, ap_retV, setSl_ok, fnOf_eq, bin1_eq, lc1_eq, okW, loose, wipeR, restR, lcE, wb1, wb2, wb3, wb4, wb5, wb6, wb7, L1_address_width]
        · show (4 - (w + 1)).toNat < (4 - w).toNat
          omega
      · have hw : w = aw c := by have := mt hlt.mpr h; omega
        refine .inl ⟨[.pu (.int c), .pu (.int w)], ?_, by rw [← hw]⟩
        simp [-rg1_eq, -f_shl, -ap_range3, -List.map_replicate, ap_var, ap_retV, setSl_ok, fnOf_eq, bin1_eq, lc1_eq, okW, loose, wipeR, restR, lcE, wb1, wb2, wb3, wb4, wb5, wb6, wb7, W1_address_width, hs, h])
  subst h
  generalize aw c = a at *
  simp [-rg1_eq, -f_shl, -ap_range3, -List.map_replicate, ap_var, ap_retV, setSl_ok, fnOf_eq, bin1_eq, lc1_eq, okW, loose, wipeR, restR, lcE, wb1, wb2, wb3, wb4, wb5, wb6, wb7, g_address_width, b_address_width, e]
theorem bits_ok {c : Int} (h0 : 1 ≤ c) (h8 : c ≤ 8) : fMax2 [.int 1, .int ((Builtin.Int.intBits (c - 1) : Nat) : Int)] = some (.pu (.int (aw c))) := by
  have hb : (if ((Builtin.Int.intBits (c - 1) : Nat) : Int) > 1 then ((Builtin.Int.intBits (c - 1) : Nat) : Int) else 1) = aw c := by
    have h : c = 1 ∨ c = 2 ∨ c = 3 ∨ c = 4 ∨ c = 5 ∨ c = 6 ∨ c = 7 ∨ c = 8 := by omega
    rcases h with rfl | rfl | rfl | rfl | rfl | rfl | rfl | rfl <;> decide +kernel
  rw [← hb]
  rfl
end K05
namespace K05
open PySem Ow PyProof.Rows
def t1 : Str := "a b2 sum left r k0 carry z9z full tail n m8 aa busy cnt p t4 even2 ab1 head u v2 w lowest high mid "
def t2 : Str := "s t e f g h i j k x y q7 deep turn gate l5 hold next1 o c0 d two zz1 near far9 ring2 "
def t3 : Str := "aaaaaaa8 b c1 top2 net3 row col7 v"
def pool : List Str := Txt.split (t1 ++ t2 ++ t3) " "
def poolB : Bool := decide pool.Nodup && decide (7 ≤ pool.length) && decide (pool.length ≤ 100) && pool.all PyData.strOk
theorem pool_b : poolB = true := by decide +kernel
theorem pool_nd : pool.Nodup := by
  have h := pool_b
  simp only [poolB, Bool.and_eq_true, decide_eq_true_eq] at h
  exact h.1.1.1
theorem pool_len : 7 ≤ pool.length ∧ pool.length ≤ 100 := by
  have h := pool_b
  simp only [poolB, Bool.and_eq_true, decide_eq_true_eq] at h
  exact ⟨h.1.1.2, h.1.2⟩
theorem pool_ok : ∀ x ∈ pool, SOk x := by
  have h := pool_b
  simp only [poolB, Bool.and_eq_true, decide_eq_true_eq] at h
  exact List.all_eq_true.mp h.2
theorem add_t (a b : Str) (h : a.length + b.length ≤ 16000000) : fAdd (.str a) (.str b) = some (.pu (.str (a ++ b))) := by
  rw [f_addS, if_pos h]
theorem a12 : fAdd (.str t1) (.str t2) = some (.pu (.str (t1 ++ t2))) := add_t _ _ (by decide +kernel)
theorem a123 : fAdd (.str (t1 ++ t2)) (.str t3) = some (.pu (.str (t1 ++ t2 ++ t3))) := add_t _ _ (by decide +kernel)
theorem sp123 : fSplit (.str (t1 ++ t2 ++ t3)) [.str " "] = some (.nw (.li (pool.map .str))) := by
  have h : ((Str.length (" " : Str) == 0) = false ∧ (t1 ++ t2 ++ t3).length + 2 ≤ 16000000) := by
    constructor <;> decide +kernel
  rw [f_split, if_pos h]
  rfl
theorem names_ok : g__law_names [] = .ret (.nw (.li (pool.map .str))) [] := by
  have h1 := a12
  have h2 := a123
  have h3 := sp123
  have e1 : (PyData.str "a b2 sum left r k0 carry z9z full tail n m8 aa busy cnt p t4 even2 ab1 head u v2 w lowest high mid ") = .str t1 := rfl
  have e2 : (PyData.str "s t e f g h i j k x y q7 deep turn gate l5 hold next1 o c0 d two zz1 near far9 ring2 ") = .str t2 := rfl
  have e3 : (PyData.str "aaaaaaa8 b c1 top2 net3 row col7 v") = .str t3 := rfl
  unfold g__law_names
  rw [fnOf_eq]
  unfold b__law_names
  rw [e1, e2, e3]
  generalize t1 ++ t2 ++ t3 = T at *
  generalize t1 ++ t2 = T12 at *
  generalize t1 = T1 at *
  generalize t2 = T2 at *
  generalize t3 = T3 at *
  generalize pool.map PyData.str = PP at *
  simp [-rg1_eq, -f_shl, -ap_range3, -List.map_replicate, ap_var, ap_retV, setSl_ok, fnOf_eq, bin1_eq, lc1_eq, okW, loose, wipeR, restR, lcE, wb1, wb2, wb3, wb4, wb5, wb6, wb7, h1, h2, h3]
theorem erase_map {α β : Type} (f : α → β) : ∀ (xs : List α) (i : Nat), (xs.map f).eraseIdx i = (xs.eraseIdx i).map f
  | [], _ => rfl
  | x :: xs, 0 => rfl
  | x :: xs, i + 1 => by
    rw [List.map_cons, List.eraseIdx_cons_succ, erase_map f xs i, List.eraseIdx_cons_succ, List.map_cons]
theorem pop_ok {ds : List D} (hd : DOK ds) {left : List Str} (hl : 0 < left.length) (hl2 : left.length ≤ 1000) : ∃ x ds' left', DOK ds' ∧ (x :: left').Perm left ∧ g__law_pop [.ow true (.li ds), .ow true (.li (left.map .str))] = .ret (.pu (.str x)) [.ow true (.li ds'), .ow true (.li (left'.map .str))] := by
  obtain ⟨r, d1, hd1, r0, r1, e1⟩ := draw hd (m := left.length) (by omega) (by omega)
  have hr : r.toNat < left.length := by omega
  have hpop : fPopAt (.li (left.map PyData.str)) [.int r] = some (.li ((left.eraseIdx r.toNat).map .str), .str left[r.toNat]) := by
    rw [f_popAt, if_pos ⟨r0, by omega⟩, List.getElem?_map, List.getElem?_eq_getElem hr, erase_map]
    rfl
  refine ⟨left[r.toNat], d1, left.eraseIdx r.toNat, hd1, erase_perm hr, ?_⟩
  have hlen2 : ∀ d, len1 (.rf 1) [.ow true (.li d), .ow true (.li (left.map .str))] = .ok (.pu (.int left.length)) [.ow true (.li d), .ow true (.li (left.map .str))] := fun d => by
    have : (left.map PyData.str).length = left.length := List.length_map ..
    rw [← this]
    rfl
  generalize left[r.toNat] = x at *
  generalize (left.eraseIdx r.toNat).map PyData.str = L2 at *
  generalize left.map PyData.str = L1 at *
  generalize ((left.length : Nat) : Int) = N at *
  simp [-rg1_eq, -f_shl, -ap_range3, -List.map_replicate, ap_var, ap_retV, setSl_ok, fnOf_eq, bin1_eq, lc1_eq, okW, loose, wipeR, restR, lcE, wb1, wb2, wb3, wb4, wb5, wb6, wb7, g__law_pop, b__law_pop, hlen2, e1, -f_popAt, hpop]
theorem pops (sc : D) : ∀ (l : List D) {ds : List D} (left : List Str), DOK ds → l.length ≤ left.length → left.length ≤ 1000 → ∃ (ys : List Str) (ds' : List D) (left' : List Str), DOK ds' ∧ ys.length = l.length ∧ (ys ++ left').Perm left ∧ lcL [4] (gNm 4) oYes C1_law l [.pu sc, .ow false (.li ds), .ow false (.li (left.map .str)), .no, .no, .no, .no, .no, .no, .no, .no] = .ok (ys.map .str) [.pu sc, .ow false (.li ds'), .ow false (.li (left'.map .str)), .no, .no, .no, .no, .no, .no, .no, .no]
  | [], ds, left, hd, _, _ => ⟨[], ds, left, hd, rfl, .refl _, rfl⟩
  | d :: l, ds, left, hd, hl, hl2 => by
    rw [List.length_cons] at hl
    obtain ⟨x, d1, left1, hd1, hp, e1⟩ := pop_ok hd (left := left) (by omega) hl2
    have hpl := hp.length_eq
    rw [List.length_cons] at hpl
    obtain ⟨ys, d2, left2, hd2, hy, hp2, e2⟩ := pops sc l left1 hd1 (by omega) (by omega)
    refine ⟨x :: ys, d2, left2, hd2, by rw [List.length_cons, List.length_cons, hy], ?_, ?_⟩
    · exact (List.Perm.cons x hp2).trans hp
    · have hg : gNm 4 d [.pu sc, .ow false (.li ds), .ow false (.li (left.map .str)), .no, .no, .no, .no, .no, .no, .no, .no] = some [.pu sc, .ow false (.li ds), .ow false (.li (left.map .str)), .no, .pu d, .no, .no, .no, .no, .no, .no] := by simp [setSl_ok]
      have hc : C1_law [.pu sc, .ow false (.li ds), .ow false (.li (left.map .str)), .no, .pu d, .no, .no, .no, .no, .no, .no] = .ok (.str x) [.pu sc, .ow false (.li d1), .ow false (.li (left1.map .str)), .no, .pu d, .no, .no, .no, .no, .no, .no] := by
        generalize left.map PyData.str = LL at *
        generalize left1.map PyData.str = LM at *
        simp [-rg1_eq, -f_shl, -ap_range3, -List.map_replicate, ap_var, ap_retV, setSl_ok, fnOf_eq, bin1_eq, lc1_eq, okW, loose, wipeR, restR, lcE, wb1, wb2, wb3, wb4, wb5, wb6, wb7, C1_law, e1]
      rw [lcL_cons, hg]
      dsimp only
      rw [oYes_eq]
      dsimp only
      rw [hc]
      dsimp only
      have hw : wipeR [.pu sc, .ow false (.li d1), .ow false (.li (left1.map .str)), .no, .pu d, .no, .no, .no, .no, .no, .no] [4] = [.pu sc, .ow false (.li d1), .ow false (.li (left1.map .str)), .no, .no, .no, .no, .no, .no, .no, .no] := rfl
      rw [hw, e2, M.bind_ok, List.map_cons]
end K05
namespace K05
open PySem Ow PyProof.Rows
theorem ne_same (r : Rv) (h : ∀ n, r = .un n → SOk n) : fNe (resD r) (resD r) = some (.pu (.bool false)) := by
  have hs : SeqAt.shaped (resD r) = true := by
    cases r with
    | va v =>
      have h2 : PyData.strOk "value" = true := by decide +kernel
      show (PyData.canLay0 (.tuple _) && decide (PyData.depth (.tuple _) ≤ 64)) = true
      simp [PyData.canLay0, PyData.canLayAll0, PyData.depth, PyData.depthAll, h2]
    | un n =>
      have h1 : PyData.strOk n = true := h n rfl
      have h2 : PyData.strOk "Unknown" = true := by decide +kernel
      show (PyData.canLay0 (.tuple _) && decide (PyData.depth (.tuple _) ≤ 64)) = true
      simp [PyData.canLay0, PyData.canLayAll0, PyData.depth, PyData.depthAll, h1, h2]
  unfold fNe
  rw [if_pos ⟨hs, hs⟩]
  cases r <;> simp [resD, PyData.eqv, PyData.eqvAll]
theorem try_step (sc : D) (ds pl : List D) (n3 s4 s5 s7 s8 s10 : Sl) {s : Sz} (hs : SzOk s) (hd : dep s < 14) {nu : List (Str × Int)} (hn : NuOk nu) : L2_law [.pu sc, .ow false (.li ds), .ow false (.li pl), n3, s4, s5, .pu (szD s), s7, s8, .pu (nuD nu), s10] = .nx [.pu sc, .ow false (.li ds), .ow false (.li pl), n3, s4, s5, .pu (szD s), s7, s8, .pu (nuD nu), s10] := by
  have h1 := asked_ok hn hs hd
  have h2 : g__law_due [.pu (szD s), .pu (nuD nu)] = _ := due_ok hn s 14 hs hd
  have h3 := ne_same (ev (fst nu) s) fun n e => ev_sok s n hs e
  generalize resD (ev (fst nu) s) = R at *
  generalize szD s = S at *
  generalize nuD nu = N at *
  simp [-rg1_eq, -f_shl, -ap_range3, -List.map_replicate, ap_var, ap_retV, setSl_ok, fnOf_eq, bin1_eq, lc1_eq, okW, loose, wipeR, restR, lcE, wb1, wb2, wb3, wb4, wb5, wb6, wb7, L2_law, h1, h2, h3]
theorem nu_nil : NuOk [] := ⟨by simp, fun p h => (by cases h), by simp⟩
theorem tries (sc : D) (ds pl : List D) (n3 s4 s5 s10 : Sl) {s : Sz} (hs : SzOk s) (hd : dep s < 14) (s7 s8 : Sl) : ∀ (l : List (List (Str × Int))) (s9 : Sl), Nw s9 → (∀ nu ∈ l, NuOk nu) → ∃ s9', Nw s9' ∧ forL (gNm 9) L2_law (l.map nuD) [.pu sc, .ow false (.li ds), .ow false (.li pl), n3, s4, s5, .pu (szD s), s7, s8, s9, s10] = .nx [.pu sc, .ow false (.li ds), .ow false (.li pl), n3, s4, s5, .pu (szD s), s7, s8, s9', s10]
  | [], s9, q9, _ => ⟨s9, q9, rfl⟩
  | nu :: l, s9, q9, h => by
    have h1 := try_step sc ds pl n3 s4 s5 s7 s8 s10 hs hd (h nu List.mem_cons_self)
    obtain ⟨s9', q9', ih⟩ := tries sc ds pl n3 s4 s5 s10 hs hd s7 s8 l (.pu (nuD nu)) (nw_pu _) fun x hx => h x (List.mem_cons_of_mem _ hx)
    refine ⟨s9', q9', ?_⟩
    have hg : gNm 9 (nuD nu) [.pu sc, .ow false (.li ds), .ow false (.li pl), n3, s4, s5, .pu (szD s), s7, s8, s9, s10] = some [.pu sc, .ow false (.li ds), .ow false (.li pl), n3, s4, s5, .pu (szD s), s7, s8, .pu (nuD nu), s10] := by
      unfold Nw at q9
      simp [setSl_ok, q9]
    rw [List.map_cons, forL_cons, hg]
    dsimp only
    rw [h1]
    exact ih
/-- the names stand as an own list or, once read, still -/
def NsS (N : List D) (s : Sl) : Prop := s = .ow false (.li N) ∨ s = .pu (.list N)
theorem round (sc : D) {ds : List D} (hd : DOK ds) (pl : List D) {names : List Str} (hn : NmsOk names) (hnd : names.Nodup) (n3 : Sl) (h3 : NsS (names.map .str) n3) (d4 s5 s10 s6 s7 s8 s9 : Sl) (q6 : Nw s6) (q7 : Nw s7) (q8 : Nw s8) (q9 : Nw s9) :
    ∃ ds' s6' s7' s8' s9', DOK ds' ∧ Nw s6' ∧ Nw s7' ∧ Nw s8' ∧ Nw s9' ∧ L3_law [.pu sc, .ow false (.li ds), .ow false (.li pl), n3, d4, s5, s6, s7, s8, s9, s10] = .nx [.pu sc, .ow false (.li ds'), .ow false (.li pl), .pu (.list (names.map .str)), d4, s5, s6', s7', s8', s9', s10] := by
  obtain ⟨b, d1, hd1, e1⟩ := rare hd (m := 4) (by decide) (by decide)
  obtain ⟨s, d2, hd2, hs, hdp, e2⟩ : ∃ s d2, DOK d2 ∧ SzOk s ∧ dep s < 14 ∧ (oIf (oTst (oCall g__law_rare (oCons (oVar 1) (oCons (oPu (oC (.int 4))) oNil)))) (oCall g__law_long_size (oCons (oVar 1) (oCons (oPu (oKeep (oVar 3))) oNil))) (oCall g__law_drawn_size (oCons (oVar 1) (oCons (oPu (oC (.int 4))) (oCons (oPu (oKeep (oVar 3))) oNil))))) [.pu sc, .ow false (.li ds), .ow false (.li pl), n3, d4, s5, s6, s7, s8, s9, s10] = .ok (.pu (szD s)) [.pu sc, .ow false (.li d2), .ow false (.li pl), .pu (.list (names.map .str)), d4, s5, s6, s7, s8, s9, s10] := by
    cases b with
    | true =>
      obtain ⟨s, d2, hd2, hs, hdp, e2⟩ := long hn hd1
      refine ⟨s, d2, hd2, hs, hdp, ?_⟩
      generalize szD s = S at *
      generalize names.map PyData.str = NN at *
      rcases h3 with rfl | rfl <;> simp [-rg1_eq, -f_shl, -ap_range3, -List.map_replicate, ap_var, ap_retV, setSl_ok, fnOf_eq, bin1_eq, lc1_eq, okW, loose, wipeR, restR, lcE, wb1, wb2, wb3, wb4, wb5, wb6, wb7, e1, e2]
    | false =>
      obtain ⟨s, d2, hd2, hs, hdp, _, e2⟩ := drawn hn 4 hd1 (Nat.le_refl _)
      refine ⟨s, d2, hd2, hs, by omega, ?_⟩
      have e2' : g__law_drawn_size [.ow true (.li d1), .pu (.int 4), .pu (.list (names.map .str))] = .ret (.pu (szD s)) [.ow true (.li d2), .pu (.int 4), .pu (.list (names.map .str))] := e2
      generalize szD s = S at *
      generalize names.map PyData.str = NN at *
      rcases h3 with rfl | rfl <;> simp [-rg1_eq, -f_shl, -ap_range3, -List.map_replicate, ap_var, ap_retV, setSl_ok, fnOf_eq, bin1_eq, lc1_eq, okW, loose, wipeR, restR, lcE, wb1, wb2, wb3, wb4, wb5, wb6, wb7, e1, e2']
  obtain ⟨one, d3, hd3, h1, e3⟩ := numbers hn hnd hd2
  obtain ⟨two, d4', hd4, h2, e4⟩ := numbers hn hnd hd3
  obtain ⟨s9', q9', e5⟩ := tries sc d4' pl (.pu (.list (names.map .str))) d4 s5 s10 hs hdp (.pu (nuD one)) (.pu (nuD two)) [one, two, one, [], two] s9 q9 (by
    intro nu hnu
    simp only [List.mem_cons, List.not_mem_nil, or_false] at hnu
    rcases hnu with rfl | rfl | rfl | rfl | rfl
    · exact h1
    · exact h2
    · exact h1
    · exact nu_nil
    · exact h2)
  refine ⟨d4', .pu (szD s), .pu (nuD one), .pu (nuD two), s9', hd4, nw_pu _, nw_pu _, nw_pu _, q9', ?_⟩
  have hz : nuD [] = .tuple [] := rfl
  have hm : [one, two, one, [], two].map nuD = [nuD one, nuD two, nuD one, .tuple [], nuD two] := rfl
  rw [hm] at e5
  unfold Nw at q6 q7 q8
  unfold L3_law
  generalize szD s = S at *
  generalize names.map PyData.str = NN at *
  generalize nuD one = O1 at *
  generalize nuD two = O2 at *
  generalize (oIf (oTst (oCall g__law_rare (oCons (oVar 1) (oCons (oPu (oC (.int 4))) oNil)))) (oCall g__law_long_size (oCons (oVar 1) (oCons (oPu (oKeep (oVar 3))) oNil))) (oCall g__law_drawn_size (oCons (oVar 1) (oCons (oPu (oC (.int 4))) (oCons (oPu (oKeep (oVar 3))) oNil))))) = OI at *
  simp [-rg1_eq, -f_shl, -ap_range3, -List.map_replicate, ap_var, ap_retV, setSl_ok, fnOf_eq, bin1_eq, lc1_eq, okW, loose, wipeR, restR, lcE, wb1, wb2, wb3, wb4, wb5, wb6, wb7, e2, q6, q7, q8, e3, e4, e5]
theorem neInt (i j : Int) : fNe (.int i) (.int j) = some (.pu (.bool (decide (i ≠ j)))) := by
  unfold fNe
  rw [if_pos ⟨rfl, rfl⟩]
  simp [PyData.eqv, Bool.beq_eq_decide_eq]
theorem width_step (sc : D) (ds pl : List D) (n3 s4 s6 s7 s8 s9 s10 : Sl) (q10 : Nw s10) {c : Int} (h0 : 1 ≤ c) (h8 : c ≤ 8) : ∃ s10', Nw s10' ∧ L1_law [.pu sc, .ow false (.li ds), .ow false (.li pl), n3, s4, .pu (.int c), s6, s7, s8, s9, s10] = .nx [.pu sc, .ow false (.li ds), .ow false (.li pl), n3, s4, .pu (.int c), s6, s7, s8, s9, s10'] := by
  have h1 := width_ok h0 h8
  have h2 := bits_ok h0 h8
  have h3 := is_int_ok (aw c)
  have h4 := neInt (aw c) (aw c)
  rw [decide_eq_false (by simp)] at h4
  refine ⟨.pu (.int (aw c)), nw_pu _, ?_⟩
  unfold Nw at q10
  generalize aw c = a at *
  simp [-rg1_eq, -f_shl, -ap_range3, -List.map_replicate, ap_var, ap_retV, setSl_ok, fnOf_eq, bin1_eq, lc1_eq, okW, loose, wipeR, restR, lcE, wb1, wb2, wb3, wb4, wb5, wb6, wb7, L1_law, h1, q10, h3, h2, h4]
end K05
namespace K05
open PySem Ow PyProof.Rows
theorem law_eq (ns : List Int) (hl : ns.length ≤ 63) : ∃ outs, g_law [.pu (Ow.scr (ns.map PyData.int))] = .ret (.pu (.bool true)) outs := by
  obtain ⟨ds1, hd1, e1⟩ := begin_ok ns hl
  have e2 := names_ok
  obtain ⟨ys, ds2, left, hd2, hy, hp, e3⟩ := pops (Ow.scr (ns.map PyData.int)) (rangeD 0 7) pool hd1 (by rw [rangeD_length]; exact pool_len.1) (by have := pool_len.2; omega)
  rw [rangeD_length] at hy
  have hyn : ys.Nodup := by
    have h := hp.nodup_iff.mpr pool_nd
    exact h.sublist (List.sublist_append_left _ _)
  have hN : NmsOk ys := ⟨by omega, by omega, fun x hx => pool_ok x (hp.mem_iff.mp (List.mem_append_left _ hx))⟩
  obtain ⟨ρ', e4, ds3, n3, s4, s6, s7, s8, s9, rfl, hd3, h3, q4, q6, q7, q8, q9⟩ := forL_all (g := gNm 4) (b := L3_law)
    (fun ρ => ∃ ds n3 s4 s6 s7 s8 s9, ρ = [.pu (Ow.scr (ns.map PyData.int)), .ow false (.li ds), .ow false (.li (left.map .str)), n3, s4, .no, s6, s7, s8, s9, .no] ∧ DOK ds ∧ NsS (ys.map .str) n3 ∧ Nw s4 ∧ Nw s6 ∧ Nw s7 ∧ Nw s8 ∧ Nw s9)
    (ds := rangeD 0 3) (ρ := [.pu (Ow.scr (ns.map PyData.int)), .ow false (.li ds2), .ow false (.li (left.map .str)), .ow false (.li (ys.map .str)), .no, .no, .no, .no, .no, .no, .no]) (by
      rintro d hmem ρ ⟨ds, n3, s4, s6, s7, s8, s9, rfl, hd, h3, q4, q6, q7, q8, q9⟩
      obtain ⟨ds', s6', s7', s8', s9', hd', q6', q7', q8', q9', e⟩ := round (Ow.scr (ns.map PyData.int)) hd (left.map .str) hN hyn n3 h3 (.pu d) .no .no s6 s7 s8 s9 q6 q7 q8 q9
      refine ⟨[.pu (Ow.scr (ns.map PyData.int)), .ow false (.li ds), .ow false (.li (left.map .str)), n3, .pu d, .no, s6, s7, s8, s9, .no], _, ?_, e, ds', _, _, s6', s7', s8', s9', rfl, hd', .inr rfl, nw_pu _, q6', q7', q8', q9'⟩
      unfold Nw at q4
      simp [setSl_ok, q4]) ⟨ds2, _, _, _, _, _, _, rfl, hd2, .inl rfl, nw_no, nw_no, nw_no, nw_no, nw_no⟩
  obtain ⟨zs, ds4, hd4, hz, e5⟩ := shuffled hd3 (xs := [.int 1, .int 2, .int 3, .int 4, .int 5, .int 6, .int 7, .int 8]) (by decide)
  have hzc : ∀ z ∈ zs, ∃ c : Int, z = .int c ∧ 1 ≤ c ∧ c ≤ 8 := fun z hm => by
    have := hz.mem_iff.mp hm
    simp only [List.mem_cons, List.not_mem_nil, or_false] at this
    rcases this with rfl | rfl | rfl | rfl | rfl | rfl | rfl | rfl <;> exact ⟨_, rfl, by decide, by decide⟩
  obtain ⟨ρ', e6, s5, s10, rfl, q5, q10⟩ := forL_all (g := gNm 5) (b := L1_law)
    (fun ρ => ∃ s5 s10, ρ = [.pu (Ow.scr (ns.map PyData.int)), .ow false (.li ds4), .ow false (.li (left.map .str)), n3, s4, s5, s6, s7, s8, s9, s10] ∧ Nw s5 ∧ Nw s10)
    (ds := zs) (ρ := [.pu (Ow.scr (ns.map PyData.int)), .ow false (.li ds4), .ow false (.li (left.map .str)), n3, s4, .no, s6, s7, s8, s9, .no]) (by
      rintro d hmem ρ ⟨s5, s10, rfl, q5, q10⟩
      obtain ⟨c, rfl, c0, c8⟩ := hzc d hmem
      obtain ⟨s10', q10', e⟩ := width_step (Ow.scr (ns.map PyData.int)) ds4 (left.map .str) n3 s4 s6 s7 s8 s9 s10 q10 c0 c8
      refine ⟨[.pu (Ow.scr (ns.map PyData.int)), .ow false (.li ds4), .ow false (.li (left.map .str)), n3, s4, .pu (.int c), s6, s7, s8, s9, s10], _, ?_, e, _, s10', rfl, nw_pu _, q10'⟩
      unfold Nw at q5
      simp [setSl_ok, q5]) ⟨_, _, rfl, nw_no, nw_no⟩
  have rg7 : ∀ ρ, rg1 [.int 7] ρ = .ok (rangeD 0 7) ρ := fun ρ => rg1_nat (n := 7) (by omega) ρ
  have rg3 : ∀ ρ, rg1 [.int 3] ρ = .ok (rangeD 0 3) ρ := fun ρ => rg1_nat (n := 3) (by omega) ρ
  have r7 : (rangeD 0 7).length ≤ 16000000 := by rw [rangeD_length]; omega
  refine ⟨[.pu (Ow.scr (ns.map PyData.int))], ?_⟩
  generalize pool.map PyData.str = PL at *
  generalize left.map PyData.str = LL at *
  generalize ys.map PyData.str = YY at *
  generalize Ow.scr (ns.map PyData.int) = SC at *
  generalize rangeD 0 7 = R7 at *
  generalize rangeD 0 3 = R3 at *
  unfold g_law
  rw [fnOf_eq]
  simp (implicitDefEqProofs := false) [-rg1_eq, -f_shl, -ap_range3, -List.map_replicate, ap_var, ap_retV, setSl_ok, bin1_eq, lc1_eq, okW, loose, wipeR, restR, lcE, wb1, wb2, wb3, wb4, wb5, wb6, wb7, b_law, e1, e2, rg7, r7, e3, rg3, e4, e5, e6]
end K05
namespace K05
open PySem PySem.Spec PyProof.Rows L2 Ow
def q_value_of : He.DefD := ⟨("value_of", none), "value_of", "value_of", defArgs s_value_of, defBody s_value_of, defScope s_value_of, [], []⟩
def q_size_value : He.DefD := ⟨("size_value", none), "size_value", "size_value", defArgs s_size_value, defBody s_size_value, defScope s_size_value, [], []⟩
def q_address_width : He.DefD := ⟨("address_width", none), "address_width", "address_width", defArgs s_address_width, defBody s_address_width, defScope s_address_width, [], []⟩
def q__law_begin : He.DefD := ⟨("_law_begin", none), "_law_begin", "_law_begin", defArgs s__law_begin, defBody s__law_begin, defScope s__law_begin, [], []⟩
def q__law_draw : He.DefD := ⟨("_law_draw", none), "_law_draw", "_law_draw", defArgs s__law_draw, defBody s__law_draw, defScope s__law_draw, [], []⟩
def q__law_pick : He.DefD := ⟨("_law_pick", none), "_law_pick", "_law_pick", defArgs s__law_pick, defBody s__law_pick, defScope s__law_pick, [], []⟩
def q__law_pop : He.DefD := ⟨("_law_pop", none), "_law_pop", "_law_pop", defArgs s__law_pop, defBody s__law_pop, defScope s__law_pop, [], []⟩
def q__law_rare : He.DefD := ⟨("_law_rare", none), "_law_rare", "_law_rare", defArgs s__law_rare, defBody s__law_rare, defScope s__law_rare, [], []⟩
def q__law_shuffled : He.DefD := ⟨("_law_shuffled", none), "_law_shuffled", "_law_shuffled", defArgs s__law_shuffled, defBody s__law_shuffled, defScope s__law_shuffled, [], []⟩
def q__law_is_int : He.DefD := ⟨("_law_is_int", none), "_law_is_int", "_law_is_int", defArgs s__law_is_int, defBody s__law_is_int, defScope s__law_is_int, [], []⟩
def q__law_names : He.DefD := ⟨("_law_names", none), "_law_names", "_law_names", defArgs s__law_names, defBody s__law_names, defScope s__law_names, [], []⟩
def q__law_drawn_size : He.DefD := ⟨("_law_drawn_size", none), "_law_drawn_size", "_law_drawn_size", defArgs s__law_drawn_size, defBody s__law_drawn_size, defScope s__law_drawn_size, [], []⟩
def q__law_long_size : He.DefD := ⟨("_law_long_size", none), "_law_long_size", "_law_long_size", defArgs s__law_long_size, defBody s__law_long_size, defScope s__law_long_size, [], []⟩
def q__law_numbers : He.DefD := ⟨("_law_numbers", none), "_law_numbers", "_law_numbers", defArgs s__law_numbers, defBody s__law_numbers, defScope s__law_numbers, [], []⟩
def q__law_due : He.DefD := ⟨("_law_due", none), "_law_due", "_law_due", defArgs s__law_due, defBody s__law_due, defScope s__law_due, [], []⟩
def q__law_asked : He.DefD := ⟨("_law_asked", none), "_law_asked", "_law_asked", defArgs s__law_asked, defBody s__law_asked, defScope s__law_asked, [], []⟩
def q_law : He.DefD := ⟨("law", none), "law", "law", defArgs s_law, defBody s_law, defScope s_law, [], []⟩
def fn : List He.DefD := [q_value_of, q_size_value, q_address_width, q__law_begin, q__law_draw, q__law_pick, q__law_pop, q__law_rare, q__law_shuffled, q__law_is_int, q__law_names, q__law_drawn_size, q__law_long_size, q__law_numbers, q__law_due, q__law_asked, q_law]
def fa : List He.Fa := [.glo "value_of", .glo "size_value", .glo "address_width", .glo "_law_begin", .glo "_law_draw", .glo "_law_pick", .glo "_law_pop", .glo "_law_rare", .glo "_law_shuffled", .glo "_law_is_int", .glo "_law_names", .glo "_law_drawn_size", .glo "_law_long_size", .glo "_law_numbers", .glo "_law_due", .glo "_law_asked", .glo "law", .free "abs", .free "any", .free "bool", .free "int", .free "isinstance", .free "len", .free "list", .free "max", .free "range", .free "tuple", .glo "BadNumber", .glo "DesignError", .glo "FlowError", .glo "LimitError", .glo "Missing", .glo "TextError", .glo "Twice", .glo "Unknown"]
abbrev R : PySem.W.OpenRow := PySem.W.OpenLaw.row PySem.Challenge.rw_wiredossier_k05_sizes
def ex (K : PySem.W.Frag) : Bool := iniB R.prog K ini_FlowError && iniB R.prog K ini_Unknown && errB R.prog K "Unknown" "FlowError" "name" && sufB K kitL fsL tsL bsL esL
def iniL : List IniD := [ini_FlowError, ini_Unknown]
abbrev hk : PySem.W.Hook := hookY 5 fa fn iniL ex
def ob (s : PySem.W.SharedT) : AlY := obsYG 5 fa fn iniL ex (HandSHeadRun.getT s)
theorem ob_eq (s : PySem.W.SharedT) : ob s = hk.obs s.abs := obsYG_eq (HandSHeadRun.getT_eq s)
abbrev ls : List Str := ["FlowError", "TextError", "DesignError", "LimitError", "Unknown", "Twice", "Missing", "BadNumber", "value_of", "size_value", "address_width", "_law_begin", "_law_draw", "_law_pick", "_law_pop", "_law_rare", "_law_shuffled", "_law_is_int", "_law_names", "_law_drawn_size", "_law_long_size", "_law_numbers", "_law_due", "_law_asked"]
theorem hd_run (w : World) : HandSHeadRun.RunEq R (PySem.W.view R.prog [27]) hk ob 4000 ls w := by
  intro os
  kernel_rfl
theorem hd_facts {w : World} {K : PySem.W.Frag} {h : Heap} {mg : Str → Option Value} {f : Addr} (X : K.In h) (G : h.Ns mainGlobals mg) (hfa : mg ("law" : Str) = some (.ref f)) (sy : SaysY fa fn iniL ex K) :
    ∃ fd : FuncData, (∀ (s : Shared) (v : Value), BindsTo s fd ⟨[v], []⟩ [("script", v)]) ∧ ∀ base : Heap, K.In base → base.Ns mainGlobals mg → FnOk R.prog w K mg base CX0 19 f fd ["script"] (spD K 1 g_law) := by
  have c := sy.d
  have cx := sy.ex
  unfold ex at cx
  obtain ⟨cx, b_sf⟩ := He.ba cx
  obtain ⟨cx, b_eUnknown⟩ := He.ba cx
  obtain ⟨cx, b_iUnknown⟩ := He.ba cx
  have b_iFlowError := cx
  have i_FlowError := sy.at 0 (d := ini_FlowError) rfl
  have i_Unknown := sy.at 1 (d := ini_Unknown) rfl
  have e_Unknown : ErrT R.prog K mg "Unknown" "Unknown" "name" (He.ga K "Unknown") := err_of X G (dx := ini_Unknown) (db := ini_FlowError) (p := "name") (W := "Unknown") i_Unknown b_iUnknown i_FlowError b_iFlowError b_eUnknown rfl rfl rfl rfl (by decide) (by decide) rfl rfl rfl (fun _ _ _ _ _ _ _ _ _ _ => BindsTo.of_eq rfl)
  have M : Mg K mg := ⟨He.free_ok X G (c.fact 17 (f := .free "abs") rfl), He.free_ok X G (c.fact 18 (f := .free "any") rfl), He.free_ok X G (c.fact 19 (f := .free "bool") rfl), He.free_ok X G (c.fact 20 (f := .free "int") rfl), He.free_ok X G (c.fact 21 (f := .free "isinstance") rfl), He.free_ok X G (c.fact 22 (f := .free "len") rfl), He.free_ok X G (c.fact 23 (f := .free "list") rfl), He.free_ok X G (c.fact 24 (f := .free "max") rfl), He.free_ok X G (c.fact 25 (f := .free "range") rfl), He.free_ok X G (c.fact 26 (f := .free "tuple") rfl)⟩
  have Q : Er R.prog K mg := ⟨e_Unknown, clG_ok X G (c.fact 27 (f := .glo "BadNumber") rfl), clG_ok X G (c.fact 28 (f := .glo "DesignError") rfl), clG_ok X G (c.fact 29 (f := .glo "FlowError") rfl), clG_ok X G (c.fact 30 (f := .glo "LimitError") rfl), clG_ok X G (c.fact 31 (f := .glo "Missing") rfl), clG_ok X G (c.fact 32 (f := .glo "TextError") rfl), clG_ok X G (c.fact 33 (f := .glo "Twice") rfl), clG_ok X G (c.fact 34 (f := .glo "Unknown") rfl), sufB_ok b_sf⟩
  obtain ⟨fd_value_of, F_value_of⟩ := c.def_ 0 (d := q_value_of) rfl
  have e_value_of := He.glo_ok X G (c.fact 0 (f := .glo "value_of") rfl)
  obtain ⟨fd_size_value, F_size_value⟩ := c.def_ 1 (d := q_size_value) rfl
  have e_size_value := He.glo_ok X G (c.fact 1 (f := .glo "size_value") rfl)
  obtain ⟨fd_address_width, F_address_width⟩ := c.def_ 2 (d := q_address_width) rfl
  have e_address_width := He.glo_ok X G (c.fact 2 (f := .glo "address_width") rfl)
  obtain ⟨fd__law_begin, F__law_begin⟩ := c.def_ 3 (d := q__law_begin) rfl
  have e__law_begin := He.glo_ok X G (c.fact 3 (f := .glo "_law_begin") rfl)
  obtain ⟨fd__law_draw, F__law_draw⟩ := c.def_ 4 (d := q__law_draw) rfl
  have e__law_draw := He.glo_ok X G (c.fact 4 (f := .glo "_law_draw") rfl)
  obtain ⟨fd__law_pick, F__law_pick⟩ := c.def_ 5 (d := q__law_pick) rfl
  have e__law_pick := He.glo_ok X G (c.fact 5 (f := .glo "_law_pick") rfl)
  obtain ⟨fd__law_pop, F__law_pop⟩ := c.def_ 6 (d := q__law_pop) rfl
  have e__law_pop := He.glo_ok X G (c.fact 6 (f := .glo "_law_pop") rfl)
  obtain ⟨fd__law_rare, F__law_rare⟩ := c.def_ 7 (d := q__law_rare) rfl
  have e__law_rare := He.glo_ok X G (c.fact 7 (f := .glo "_law_rare") rfl)
  obtain ⟨fd__law_shuffled, F__law_shuffled⟩ := c.def_ 8 (d := q__law_shuffled) rfl
  have e__law_shuffled := He.glo_ok X G (c.fact 8 (f := .glo "_law_shuffled") rfl)
  obtain ⟨fd__law_is_int, F__law_is_int⟩ := c.def_ 9 (d := q__law_is_int) rfl
  have e__law_is_int := He.glo_ok X G (c.fact 9 (f := .glo "_law_is_int") rfl)
  obtain ⟨fd__law_names, F__law_names⟩ := c.def_ 10 (d := q__law_names) rfl
  have e__law_names := He.glo_ok X G (c.fact 10 (f := .glo "_law_names") rfl)
  obtain ⟨fd__law_drawn_size, F__law_drawn_size⟩ := c.def_ 11 (d := q__law_drawn_size) rfl
  have e__law_drawn_size := He.glo_ok X G (c.fact 11 (f := .glo "_law_drawn_size") rfl)
  obtain ⟨fd__law_long_size, F__law_long_size⟩ := c.def_ 12 (d := q__law_long_size) rfl
  have e__law_long_size := He.glo_ok X G (c.fact 12 (f := .glo "_law_long_size") rfl)
  obtain ⟨fd__law_numbers, F__law_numbers⟩ := c.def_ 13 (d := q__law_numbers) rfl
  have e__law_numbers := He.glo_ok X G (c.fact 13 (f := .glo "_law_numbers") rfl)
  obtain ⟨fd__law_due, F__law_due⟩ := c.def_ 14 (d := q__law_due) rfl
  have e__law_due := He.glo_ok X G (c.fact 14 (f := .glo "_law_due") rfl)
  obtain ⟨fd__law_asked, F__law_asked⟩ := c.def_ 15 (d := q__law_asked) rfl
  have e__law_asked := He.glo_ok X G (c.fact 15 (f := .glo "_law_asked") rfl)
  obtain ⟨fd_law, F_law⟩ := c.def_ 16 (d := q_law) rfl
  have e_law := He.glo_ok X G (c.fact 16 (f := .glo "law") rfl)
  have e := hfa.symm.trans e_law
  cases e
  have b := FunD.bindsA (ps := ["script"]) F_law fun _ _ _ _ _ _ us hl => match us, hl with | [_], _ => rfl
  refine ⟨fd_law, fun s v => b s [v] rfl, fun base _ _ => ?_⟩
  have c_value_of : CalX R.prog w K mg base 16 "value_of" ["size", "table"] g_value_of := CalX.of (oka_value_of M F_value_of Q e_value_of 14) e_value_of F_value_of fun _ _ _ _ _ _ us hl => match us, hl with | [_, _], _ => rfl
  have c_size_value : CalX R.prog w K mg base 17 "size_value" ["size", "numbers"] g_size_value := CalX.of (ok_size_value M F_size_value c_value_of) e_size_value F_size_value fun _ _ _ _ _ _ us hl => match us, hl with | [_, _], _ => rfl
  have c_address_width : Cal R.prog w K mg base 1 "address_width" ["count"] g_address_width := Cal.of (ok_address_width M F_address_width) e_address_width F_address_width fun _ _ _ _ _ _ us hl => match us, hl with | [_], _ => rfl
  have c__law_begin : Cal R.prog w K mg base 1 "_law_begin" ["script"] g__law_begin := Cal.of (ok__law_begin M F__law_begin) e__law_begin F__law_begin fun _ _ _ _ _ _ us hl => match us, hl with | [_], _ => rfl
  have c__law_draw : Cal R.prog w K mg base 1 "_law_draw" ["d", "many"] g__law_draw := Cal.of (ok__law_draw M F__law_draw) e__law_draw F__law_draw fun _ _ _ _ _ _ us hl => match us, hl with | [_, _], _ => rfl
  have c__law_pick : Cal R.prog w K mg base 2 "_law_pick" ["d", "row"] g__law_pick := Cal.of (ok__law_pick M F__law_pick c__law_draw) e__law_pick F__law_pick fun _ _ _ _ _ _ us hl => match us, hl with | [_, _], _ => rfl
  have c__law_pop : Cal R.prog w K mg base 2 "_law_pop" ["d", "row"] g__law_pop := Cal.of (ok__law_pop M F__law_pop c__law_draw) e__law_pop F__law_pop fun _ _ _ _ _ _ us hl => match us, hl with | [_, _], _ => rfl
  have c__law_rare : Cal R.prog w K mg base 2 "_law_rare" ["d", "many"] g__law_rare := Cal.of (ok__law_rare M F__law_rare c__law_draw) e__law_rare F__law_rare fun _ _ _ _ _ _ us hl => match us, hl with | [_, _], _ => rfl
  have c__law_shuffled : Cal R.prog w K mg base 2 "_law_shuffled" ["d", "row"] g__law_shuffled := Cal.of (ok__law_shuffled M F__law_shuffled c__law_draw) e__law_shuffled F__law_shuffled fun _ _ _ _ _ _ us hl => match us, hl with | [_, _], _ => rfl
  have c__law_is_int : Cal R.prog w K mg base 1 "_law_is_int" ["thing"] g__law_is_int := Cal.of (ok__law_is_int M F__law_is_int) e__law_is_int F__law_is_int fun _ _ _ _ _ _ us hl => match us, hl with | [_], _ => rfl
  have c__law_names : Cal R.prog w K mg base 1 "_law_names" [] g__law_names := Cal.of (ok__law_names M F__law_names) e__law_names F__law_names fun _ _ _ _ _ _ us hl => match us, hl with | [], _ => rfl
  have c__law_drawn_size : Cal R.prog w K mg base 17 "_law_drawn_size" ["d", "depth", "names"] g__law_drawn_size := Cal.of (oka__law_drawn_size M F__law_drawn_size c__law_draw c__law_pick e__law_drawn_size 14) e__law_drawn_size F__law_drawn_size fun _ _ _ _ _ _ us hl => match us, hl with | [_, _, _], _ => rfl
  have c__law_long_size : Cal R.prog w K mg base 18 "_law_long_size" ["d", "names"] g__law_long_size := Cal.of (ok__law_long_size M F__law_long_size c__law_draw c__law_drawn_size) e__law_long_size F__law_long_size fun _ _ _ _ _ _ us hl => match us, hl with | [_, _], _ => rfl
  have c__law_numbers : Cal R.prog w K mg base 3 "_law_numbers" ["d", "names"] g__law_numbers := Cal.of (ok__law_numbers M F__law_numbers c__law_draw c__law_pick c__law_shuffled) e__law_numbers F__law_numbers fun _ _ _ _ _ _ us hl => match us, hl with | [_, _], _ => rfl
  have c__law_due : Cal R.prog w K mg base 15 "_law_due" ["size", "numbers"] g__law_due := Cal.of (oka__law_due M F__law_due e__law_due 14) e__law_due F__law_due fun _ _ _ _ _ _ us hl => match us, hl with | [_, _], _ => rfl
  have c__law_asked : Cal R.prog w K mg base 18 "_law_asked" ["size", "numbers"] g__law_asked := Cal.of (ok__law_asked M F__law_asked Q c__law_is_int c_size_value) e__law_asked F__law_asked fun _ _ _ _ _ _ us hl => match us, hl with | [_, _], _ => rfl
  exact ok_law M F_law c__law_asked c__law_begin c__law_drawn_size c__law_due c__law_is_int c__law_long_size c__law_names c__law_numbers c__law_pop c__law_rare c__law_shuffled c_address_width
end K05
open PySem PySem.W PySem.Calls PyProof.Rows
theorem PySem.Challenge.cw_wiredossier_k05_sizes_holds : PySem.Challenge.rw_wiredossier_k05_sizes.Holds := by
  w_on; o_law
  refine HandSHeadRun.head_any (r := OpenLaw.row PySem.Challenge.rw_wiredossier_k05_sizes) (q := view (OpenLaw.row PySem.Challenge.rw_wiredossier_k05_sizes).prog [27]) (H := K05.hk) (ob := K05.ob) (M := 4000) (loose := K05.ls) (d := HandSHeadRun.topDef (OpenLaw.row PySem.Challenge.rw_wiredossier_k05_sizes).prog 27) (kwd := []) K05.ob_eq
    (by kernel_rfl) (fun s => by kernel_rfl) K05.hd_run (by kernel_rfl) (by kernel_rfl) (by kernel_rfl) (by rfl) (by first | assumption | decide +kernel) (by decide +kernel) ⟨rfl, rfl, rfl, rfl, rfl, by decide +kernel⟩ ?hw ?hc
  case hw => w_witness2
  case hc =>
    refine L2.walk_ofE (l := PySem.Challenge.rw_wiredossier_k05_sizes) (n := 63) (k := 19) (x := "script") (CX := L2.CX0) rfl (by decide) (by kernel_rfl) ⟨rfl, by decide, by decide⟩ ?F (fun _ _ _ _ z => z)
    intro w mg fa h Y G hmg0
    obtain ⟨K, KX, sy⟩ := Y
    have hmg : mg ("law" : PySem.Str) = some (.ref fa) := by
      have e : (HandSHeadRun.topDef (OpenLaw.row PySem.Challenge.rw_wiredossier_k05_sizes).prog 27).name = ("law" : PySem.Str) := by kernel_rfl
      rw [← e]
      exact hmg0
    obtain ⟨fd, hb, hF⟩ := K05.hd_facts (w := w) KX G hmg sy
    exact ⟨K, fd, Ow.spD K 1 K05.g_law, KX, hb, fun H a ns hl _ hS => Ow.sp_law (outs := []) (K05.law_eq ns hl) hS, hF⟩
