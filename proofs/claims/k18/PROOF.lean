import PyProof.Rows.All
import Wide.All
import OpenK.AllK
import Wide.FinOn
import HandS.ForMost
import HandS.Walk
import HandS.Style
import KE.GoesEnum
import HandS.HeadEnd
import HandS.Wide
import HandS.IsInst
import HandS.TupAny
import HandS.TupMul
import KE.KTupSum
import PyProof.ReprRoads
import PyProof.ReprBulk
import PyProof.FitsInt
import HandS.List
import HandS.Words
import HandS.Defaults
import HandS.HeadHook1
import HandS.HeadHook2
import PySem.Challenge.RW_partrests_k18_rows_multiplied
import KE.IntTextLaws
import HandS.Head0
import HandS.Head1
import HandS.Head2
set_option Elab.async false
set_option linter.all false
set_option maxRecDepth 100000
set_option maxHeartbeats 2000000
set_option autoImplicit false
/-! DL, first part: what is known of the heap, by data -/
namespace DL
open PySem PySem.Spec PyProof.Rows L2
/-- what a value is: data that never changes, the k-th owned object, a list that is read only -/
inductive Den where
  | dat (d : PyData)
  | own (k : Nat)
  | rdl (ds : List PyData)
  | ty (n : String)
/-- what an owned object holds -/
inductive Cont where
  | lst (xs : List Den)
  | dki (kvs : List (Int × Den))
  | dkt (kvs : List (List Int × Den))
  | dead
abbrev DI (i : Int) : Den := .dat (.int i)
abbrev DB (b : Bool) : Den := .dat (.bool b)
abbrev DS (x : Str) : Den := .dat (.str x)
abbrev DN : Den := .dat .none
abbrev DLs (ds : List PyData) : Den := .dat (.list ds)
abbrev DTu (ds : List PyData) : Den := .dat (.tuple ds)
abbrev intl (ns : List Int) : List PyData := ns.map PyData.int
abbrev DEnv := List (Option Den)
mutual
inductive Rp (K : PySem.W.Frag) (S : Hp) : V → PyData → Prop
  | non : Rp K S .non .none
  | bl (b : Bool) : Rp K S (.bl b) (.bool b)
  | int (i : Int) : Rp K S (.int i) (.int i)
  | str (x : Str) : Rp K S (.str x) (.str x)
  | lst {a : Addr} {vs : List V} {ds : List PyData} : S a = some (.lst vs) → RpAll K S vs ds → Rp K S (.ref a) (.list ds)
  | tup {a : Addr} {vs : List V} {ds : List PyData} : SqT K S a vs → RpAll K S vs ds → Rp K S (.ref a) (.tuple ds)
inductive RpAll (K : PySem.W.Frag) (S : Hp) : List V → List PyData → Prop
  | nil : RpAll K S [] []
  | cons {v : V} {vs : List V} {d : PyData} {ds : List PyData} : Rp K S v d → RpAll K S vs ds → RpAll K S (v :: vs) (d :: ds)
end
section
variable {K : PySem.W.Frag} {S S' S1 S2 H H' H1 H2 : Hp} {ps ps' qs : List Addr} {C C' : List Cont} {σ : L2.St} {ρ : DEnv}
theorem same_seqT {a : Addr} {xs : List V} (e : Same S S') (h : SqT K S a xs) : SqT K S' a xs := by
  rcases h with (h | ⟨o, h⟩) | h
  · exact .inl (.inl (e _ _ h))
  · exact .inl (.inr ⟨o, e _ _ h⟩)
  · exact .inr h
mutual
theorem Rp.mono (e : Same S S') : ∀ (d : PyData) (v : V), Rp K S v d → Rp K S' v d
  | .none, _, h => by cases h; exact .non
  | .bool b, _, h => by cases h; exact .bl b
  | .int i, _, h => by cases h; exact .int i
  | .str x, _, h => by cases h; exact .str x
  | .list ds, _, h => by
    cases h with
    | lst h1 h2 => exact .lst (e _ _ h1) (RpAll.mono e ds _ h2)
  | .tuple ds, _, h => by
    cases h with
    | tup h1 h2 => exact .tup (same_seqT e h1) (RpAll.mono e ds _ h2)
  | .dict _, _, h => by cases h
theorem RpAll.mono (e : Same S S') : ∀ (ds : List PyData) (vs : List V), RpAll K S vs ds → RpAll K S' vs ds
  | [], _, h => by cases h; exact .nil
  | d :: ds, _, h => by
    cases h with
    | cons h1 h2 => exact .cons (Rp.mono e d _ h1) (RpAll.mono e ds _ h2)
end
mutual
theorem Rp.dp : ∀ (d : PyData) (v : V), Rp K S v d → Dp K S v d
  | .none, _, h => by cases h; exact .non
  | .bool b, _, h => by cases h; exact .bl b
  | .int i, _, h => by cases h; exact .int i
  | .str x, _, h => by cases h; exact .str x
  | .list ds, _, h => by
    cases h with
    | lst h1 h2 => exact .lst (SqL.of h1) (RpAll.dp ds _ h2)
  | .tuple ds, _, h => by
    cases h with
    | tup h1 h2 => exact .tup h1 (RpAll.dp ds _ h2)
  | .dict _, _, h => by cases h
theorem RpAll.dp : ∀ (ds : List PyData) (vs : List V), RpAll K S vs ds → DpAll K S vs ds
  | [], _, h => by cases h; exact .nil
  | d :: ds, _, h => by
    cases h with
    | cons h1 h2 => exact .cons (Rp.dp d _ h1) (RpAll.dp ds _ h2)
end
/-- a value is what d tells: S is what stands still, ps where the owned objects are -/
def DenOk (K : PySem.W.Frag) (S : Hp) (ps : List Addr) (v : V) : Den → Prop
  | .dat d => Rp K S v d
  | .own k => ∃ p, ps[k]? = some p ∧ v = .ref p
  | .rdl ds => ∃ a vs, v = .ref a ∧ SqL K S a vs ∧ RpAll K S vs ds
  | .ty n => v = .ty n
theorem DenOk.mono {v : V} {d : Den} (e : Same S S') (h : DenOk K S ps v d) : DenOk K S' (ps ++ qs) v d := by
  cases d with
  | dat d => exact Rp.mono e d v h
  | own k =>
    obtain ⟨p, h1, h2⟩ := h
    refine ⟨p, ?_, h2⟩
    rw [List.getElem?_append_left (List.getElem?_eq_some_iff.mp h1).1]
    exact h1
  | rdl ds =>
    obtain ⟨a, vs, h1, h2, h3⟩ := h
    exact ⟨a, vs, h1, e.seq h2, RpAll.mono e ds vs h3⟩
  | ty n => exact h
theorem DenOk.mono0 {v : V} {d : Den} (e : Same S S') (h : DenOk K S ps v d) : DenOk K S' ps v d := by
  have := DenOk.mono (qs := []) e h
  rwa [List.append_nil] at this
abbrev DensOk (K : PySem.W.Frag) (S : Hp) (ps : List Addr) : List V → List Den → Prop := Paired (DenOk K S ps)
theorem Paired.imp {α β : Type} {F G : α → β → Prop} (f : ∀ a b, F a b → G a b) : ∀ {l₁ : List α} {l₂ : List β}, Paired F l₁ l₂ → Paired G l₁ l₂
  | _, _, .nil => .nil
  | _, _, .cons r t => .cons (f _ _ r) (Paired.imp f t)
theorem DensOk.mono {vs : List V} {ds : List Den} (e : Same S S') (h : DensOk K S ps vs ds) : DensOk K S' (ps ++ qs) vs ds := Paired.imp (fun _ _ => DenOk.mono e) h
theorem RpAll.dens : ∀ {ds : List PyData} {vs : List V}, RpAll K S vs ds → DensOk K S ps vs (ds.map Den.dat)
  | [], _, h => by cases h; exact .nil
  | d :: ds, _, h => by
    cases h with
    | cons h1 h2 => exact .cons h1 (RpAll.dens h2)
theorem DensOk.rpAll : ∀ {ds : List PyData} {vs : List V}, DensOk K S ps vs (ds.map Den.dat) → RpAll K S vs ds
  | [], _, h => by cases h; exact .nil
  | d :: ds, _, h => by
    cases h with
    | cons h1 h2 => exact .cons h1 (DensOk.rpAll h2)
theorem Paired.get {α β : Type} {F : α → β → Prop} : ∀ {l₁ : List α} {l₂ : List β} {i : Nat} {b : β}, Paired F l₁ l₂ → l₂[i]? = some b → ∃ a, l₁[i]? = some a ∧ F a b
  | _, _, _, _, .nil, h => by simp at h
  | _, _, 0, _, .cons r _, h => by simp at h; subst h; exact ⟨_, rfl, r⟩
  | _, _, i + 1, _, .cons _ t, h => by
    obtain ⟨a, h1, h2⟩ := Paired.get (i := i) t (by simpa using h)
    exact ⟨a, by simpa using h1, h2⟩
theorem Paired.get' {α β : Type} {F : α → β → Prop} : ∀ {l₁ : List α} {l₂ : List β} {i : Nat} {a : α}, Paired F l₁ l₂ → l₁[i]? = some a → ∃ b, l₂[i]? = some b ∧ F a b
  | _, _, _, _, .nil, h => by simp at h
  | _, _, 0, _, .cons r _, h => by simp at h; subst h; exact ⟨_, rfl, r⟩
  | _, _, i + 1, _, .cons _ t, h => by
    obtain ⟨a, h1, h2⟩ := Paired.get' (i := i) t (by simpa using h)
    exact ⟨a, by simpa using h1, h2⟩
theorem Paired.len {α β : Type} {F : α → β → Prop} : ∀ {l₁ : List α} {l₂ : List β}, Paired F l₁ l₂ → l₁.length = l₂.length
  | _, _, .nil => rfl
  | _, _, .cons _ t => by simp [Paired.len t]
theorem Paired.app {α β : Type} {F : α → β → Prop} : ∀ {l₁ m₁ : List α} {l₂ m₂ : List β}, Paired F l₁ l₂ → Paired F m₁ m₂ → Paired F (l₁ ++ m₁) (l₂ ++ m₂)
  | _, _, _, _, .nil, h => h
  | _, _, _, _, .cons r t, h => .cons r (Paired.app t h)
theorem Paired.set {α β : Type} {F : α → β → Prop} {x : α} {y : β} (r : F x y) : ∀ {l₁ : List α} {l₂ : List β} (i : Nat), Paired F l₁ l₂ → Paired F (l₁.set i x) (l₂.set i y)
  | _, _, _, .nil => .nil
  | _, _, 0, .cons _ t => .cons r t
  | _, _, i + 1, .cons q t => .cons q (Paired.set r i t)
theorem Paired.take {α β : Type} {F : α → β → Prop} : ∀ {l₁ : List α} {l₂ : List β} (i : Nat), Paired F l₁ l₂ → Paired F (l₁.take i) (l₂.take i)
  | _, _, 0, _ => .nil
  | _, _, _ + 1, .nil => .nil
  | _, _, i + 1, .cons q t => .cons q (Paired.take i t)
theorem Paired.drop {α β : Type} {F : α → β → Prop} : ∀ {l₁ : List α} {l₂ : List β} (i : Nat), Paired F l₁ l₂ → Paired F (l₁.drop i) (l₂.drop i)
  | _, _, 0, h => h
  | _, _, _ + 1, .nil => .nil
  | _, _, i + 1, .cons _ t => Paired.drop i t
theorem Paired.rev {α β : Type} {F : α → β → Prop} : ∀ {l₁ : List α} {l₂ : List β}, Paired F l₁ l₂ → Paired F l₁.reverse l₂.reverse
  | _, _, .nil => .nil
  | _, _, .cons r t => by
    simp only [List.reverse_cons]
    exact Paired.app (Paired.rev t) (.cons r .nil)
/-- an owned object's content -/
def ContOk (K : PySem.W.Frag) (S : Hp) (ps : List Addr) (H : Hp) (p : Addr) : Cont → Prop
  | .lst xs => ∃ vs, H p = some (.lst vs) ∧ DensOk K S ps vs xs
  | .dki kvs => ∃ ws, H p = some (.dK ws) ∧ Paired (fun (a : Key × V) (b : Int × Den) => a.1 = Sum.inl b.1 ∧ DenOk K S ps a.2 b.2) ws kvs
  | .dkt kvs => ∃ ws, H p = some (.dT ws) ∧ Paired (fun (a : List Key × V) (b : List Int × Den) => a.1 = b.1.map Sum.inl ∧ DenOk K S ps a.2 b.2) ws kvs
  | .dead => H p ≠ none
theorem ContOk.mono {p : Addr} {c : Cont} (e : Same S S') (hp : H' p = H p) (h : ContOk K S ps H p c) : ContOk K S' (ps ++ qs) H' p c := by
  cases c with
  | lst xs =>
    obtain ⟨vs, h1, h2⟩ := h
    exact ⟨vs, hp.trans h1, h2.mono e⟩
  | dki kvs =>
    obtain ⟨vs, h1, h2⟩ := h
    exact ⟨vs, hp.trans h1, Paired.imp (fun _ _ q => ⟨q.1, q.2.mono e⟩) h2⟩
  | dkt kvs =>
    obtain ⟨vs, h1, h2⟩ := h
    exact ⟨vs, hp.trans h1, Paired.imp (fun _ _ q => ⟨q.1, q.2.mono e⟩) h2⟩
  | dead =>
    show H' p ≠ none
    rw [hp]
    exact h
theorem ContOk.there {p : Addr} {c : Cont} (h : ContOk K S ps H p c) : ∃ o, H p = some o := by
  cases c with
  | lst xs => obtain ⟨vs, h1, _⟩ := h; exact ⟨_, h1⟩
  | dki xs => obtain ⟨vs, h1, _⟩ := h; exact ⟨_, h1⟩
  | dkt xs => obtain ⟨vs, h1, _⟩ := h; exact ⟨_, h1⟩
  | dead =>
    have h : H p ≠ none := h
    cases q : H p with
    | none => exact absurd q h
    | some o => exact ⟨o, rfl⟩
/-- the whole: what stands still lies in the heap, the owned objects apart from it and from one another -/
structure Core (K : PySem.W.Frag) (S : Hp) (ps : List Addr) (C : List Cont) (H : Hp) : Prop where
  sub : Same S H
  nd : ps.Nodup
  len : ps.length = C.length
  cont : ∀ (k : Nat) (p : Addr) (c : Cont), ps[k]? = some p → C[k]? = some c → ContOk K S ps H p c
  apart : ∀ (k : Nat) (p : Addr) (c : Cont), ps[k]? = some p → C[k]? = some c → c ≠ .dead → S p = none
/-- how the heap goes on -/
structure Ext (S : Hp) (ps : List Addr) (H S' : Hp) (ps' : List Addr) (H' : Hp) : Prop where
  ss : Same S S'
  pre : ∃ qs, ps' = ps ++ qs ∧ ∀ q ∈ qs, H q = none
  keep : ∀ a o, H a = some o → a ∉ ps → H' a = some o
  fresh : ∀ a o, S' a = some o → S a = some o ∨ H a = none ∨ a ∈ ps
  dom : ∀ a, H' a = none → H a = none
theorem Ext.refl : Ext S ps H S ps H := ⟨Same.refl S, ⟨[], by simp, by simp⟩, fun _ _ h _ => h, fun _ _ h => .inl h, fun _ h => h⟩
theorem Ext.trans {ps1 ps2 : List Addr} (a : Ext S ps H S1 ps1 H1) (b : Ext S1 ps1 H1 S2 ps2 H2) : Ext S ps H S2 ps2 H2 := by
  obtain ⟨q1, e1, f1⟩ := a.pre
  obtain ⟨q2, e2, f2⟩ := b.pre
  have back : ∀ {x : Addr}, H1 x = none → H x = none := fun {x} h => a.dom x h
  refine ⟨a.ss.trans b.ss, ⟨q1 ++ q2, by rw [e2, e1, List.append_assoc], fun q hq => ?_⟩, fun x o hx hn => ?_, fun x o hx => ?_, fun x hx => a.dom x (b.dom x hx)⟩
  · rcases List.mem_append.mp hq with h | h
    · exact f1 q h
    · exact back (f2 q h)
  · refine b.keep x o (a.keep x o hx hn) fun hm => ?_
    rw [e1] at hm
    rcases List.mem_append.mp hm with h | h
    · exact hn h
    · rw [f1 x h] at hx; cases hx
  · rcases b.fresh x o hx with h | h | h
    · exact a.fresh x o h
    · exact .inr (.inl (back h))
    · rw [e1] at h
      rcases List.mem_append.mp h with h | h
      · exact .inr (.inr h)
      · exact .inr (.inl (f1 x h))
theorem Ext.den {ps' : List Addr} {v : V} {d : Den} (e : Ext S ps H S' ps' H') (h : DenOk K S ps v d) : DenOk K S' ps' v d := by
  obtain ⟨qs, rfl, _⟩ := e.pre
  exact h.mono e.ss
theorem Ext.dens {ps' : List Addr} {v : List V} {d : List Den} (e : Ext S ps H S' ps' H') (h : DensOk K S ps v d) : DensOk K S' ps' v d := by
  obtain ⟨qs, rfl, _⟩ := e.pre
  exact h.mono e.ss
theorem Core.there {p : Addr} (c : Core K S ps C H) (h : p ∈ ps) : ∃ o, H p = some o := by
  obtain ⟨k, hk⟩ := List.getElem?_of_mem h
  have hl : k < C.length := by
    have := (List.getElem?_eq_some_iff.mp hk).1
    rw [c.len] at this
    exact this
  exact (c.cont k p C[k] hk (List.getElem?_eq_getElem hl)).there
theorem Core.new {p : Addr} (c : Core K S ps C H) (h : H p = none) : p ∉ ps ∧ S p = none := by
  refine ⟨fun hm => ?_, c.sub.free h⟩
  obtain ⟨o, e⟩ := c.there hm
  rw [h] at e; cases e
/-- a new object that never changes -/
theorem Core.laid {p : Addr} {o : HO} (c : Core K S ps C H) (h : H p = none) : Core K (upd S p o) ps C (upd H p o) ∧ Ext S ps H (upd S p o) ps (upd H p o) := by
  obtain ⟨h1, h2⟩ := c.new h
  have e : Same S (upd S p o) := fun b x q => by rw [upd_ne (ne_of_none q h2)]; exact q
  refine ⟨⟨fun b x q => ?_, c.nd, c.len, fun k q x hq hx => ?_, fun k q x hq hx hd => ?_⟩, ⟨e, ⟨[], by simp, by simp⟩, fun b x q _ => ?_, fun b x q => ?_, fun b q => ?_⟩⟩
  · by_cases hb : b = p
    · subst hb; rw [upd_same] at q ⊢; exact q
    · rw [upd_ne hb] at q ⊢; exact c.sub b x q
  · have hqp : q ≠ p := fun z => h1 (z ▸ List.mem_of_getElem? hq)
    have := (c.cont k q x hq hx).mono (qs := []) (H' := upd H p o) e (upd_ne hqp)
    rwa [List.append_nil] at this
  · have hqp : q ≠ p := fun z => h1 (z ▸ List.mem_of_getElem? hq)
    rw [upd_ne hqp]
    exact c.apart k q x hq hx hd
  · rw [upd_ne (ne_of_none q h)]; exact q
  · by_cases hb : b = p
    · subst hb; exact .inr (.inl h)
    · rw [upd_ne hb] at q; exact .inl q
  · by_cases hb : b = p
    · subst hb; exact h
    · rw [upd_ne hb] at q; exact q
/-- a new owned object -/
theorem Core.owned {p : Addr} {o : HO} {x : Cont} (c : Core K S ps C H) (h : H p = none) (hx : ContOk K S ps (upd H p o) p x) : Core K S (ps ++ [p]) (C ++ [x]) (upd H p o) ∧ Ext S ps H S (ps ++ [p]) (upd H p o) := by
  obtain ⟨h1, h2⟩ := c.new h
  have old : ∀ {k q y}, (ps ++ [p])[k]? = some q → (C ++ [x])[k]? = some y → (ps[k]? = some q ∧ C[k]? = some y) ∨ (k = ps.length ∧ q = p ∧ y = x) := fun {k q y} e1 e2 => by
    by_cases hk : k < ps.length
    · rw [List.getElem?_append_left hk] at e1
      rw [List.getElem?_append_left (by rw [← c.len]; exact hk)] at e2
      exact .inl ⟨e1, e2⟩
    · have hl := (List.getElem?_eq_some_iff.mp e1).1
      rw [List.length_append, List.length_singleton] at hl
      have hk' : k = ps.length := by omega
      subst hk'
      rw [List.getElem?_append_right (Nat.le_refl _), Nat.sub_self] at e1
      rw [List.getElem?_append_right (by rw [c.len]; exact Nat.le_refl _), c.len, Nat.sub_self] at e2
      exact .inr ⟨rfl, (Option.some.inj e1).symm, (Option.some.inj e2).symm⟩
  refine ⟨⟨fun b y q => ?_, ?_, by simp [c.len], fun k q y hq hy => ?_, fun k q y hq hy hd => ?_⟩, ⟨Same.refl S, ⟨[p], rfl, by simpa using h⟩, fun b y q _ => ?_, fun b y q => .inl q, fun b q => ?_⟩⟩
  · rw [upd_ne (ne_of_none q h2)]; exact c.sub b y q
  · refine List.nodup_append.mpr ⟨c.nd, by simp, fun a ha b hb => ?_⟩
    have : b = p := by simpa using hb
    subst this
    exact fun z => h1 (z ▸ ha)
  · rcases old hq hy with ⟨e1, e2⟩ | ⟨rfl, rfl, rfl⟩
    · exact (c.cont k q y e1 e2).mono (Same.refl S) (upd_ne fun z => h1 (z ▸ List.mem_of_getElem? e1))
    · exact hx.mono (Same.refl S) rfl
  · rcases old hq hy with ⟨e1, e2⟩ | ⟨rfl, rfl, rfl⟩
    · exact c.apart k q y e1 e2 hd
    · exact h2
  · rw [upd_ne (ne_of_none q h)]; exact q
  · by_cases hb : b = p
    · subst hb; exact h
    · rw [upd_ne hb] at q; exact q
/-- an owned object is changed -/
theorem Core.wrote {k : Nat} {p : Addr} {o : HO} {x y : Cont} (c : Core K S ps C H) (hp : ps[k]? = some p) (hx : C[k]? = some x) (hd : x ≠ .dead) (hy : ContOk K S ps (upd H p o) p y) : Core K S ps (C.set k y) (upd H p o) ∧ Ext S ps H S ps (upd H p o) := by
  have hS := c.apart k p x hp hx hd
  obtain ⟨o0, ho⟩ := (c.cont k p x hp hx).there
  have hm : p ∈ ps := List.mem_of_getElem? hp
  have kl := (List.getElem?_eq_some_iff.mp hp).1
  have inj : ∀ {j}, ps[j]? = some p → j = k := fun {j} e => by
    obtain ⟨l1, e1⟩ := List.getElem?_eq_some_iff.mp e
    obtain ⟨l2, e2⟩ := List.getElem?_eq_some_iff.mp hp
    exact (List.getElem_inj c.nd).mp (e1.trans e2.symm)
  refine ⟨⟨fun b z q => ?_, c.nd, by rw [List.length_set]; exact c.len, fun j q z hq hz => ?_, fun j q z hq hz hd' => ?_⟩, ⟨Same.refl S, ⟨[], by simp, by simp⟩, fun b z q hn => ?_, fun b z q => .inl q, fun b q => ?_⟩⟩
  · rw [upd_ne (ne_of_none q hS)]; exact c.sub b z q
  · by_cases hj : j = k
    · subst hj
      rw [hp] at hq; cases hq
      rw [List.getElem?_set_self (by rw [← c.len]; exact kl)] at hz
      cases hz
      exact hy
    · rw [List.getElem?_set_ne (Ne.symm hj)] at hz
      have := (c.cont j q z hq hz).mono (qs := []) (H' := upd H p o) (Same.refl S) (upd_ne fun e => hj (inj (e ▸ hq)))
      rwa [List.append_nil] at this
  · by_cases hj : j = k
    · subst hj
      rw [hp] at hq; cases hq
      exact hS
    · rw [List.getElem?_set_ne (Ne.symm hj)] at hz
      exact c.apart j q z hq hz hd'
  · rw [upd_ne fun (e : b = p) => hn (by rw [e]; exact hm)]; exact q
  · by_cases hb : b = p
    · subst hb; rw [upd_same] at q; cases q
    · rw [upd_ne hb] at q; exact q
/-! ### slots -/
structure EnvOk (K : PySem.W.Frag) (S : Hp) (ps : List Addr) (σ : L2.St) (ρ : DEnv) : Prop where
  len : ρ.length = σ.length
  get : ∀ (i : Nat) (d : Den), ρ[i]? = some (some d) → ∃ v, σ[i]? = some (some v) ∧ DenOk K S ps v d
theorem EnvOk.ext (h : EnvOk K S ps σ ρ) (e : Ext S ps H S' ps' H') : EnvOk K S' ps' σ ρ := ⟨h.len, fun i d q => by
  obtain ⟨v, h1, h2⟩ := h.get i d q
  exact ⟨v, h1, e.den h2⟩⟩
theorem EnvOk.set {i : Nat} {v : V} {d : Den} (h : EnvOk K S ps σ ρ) (hd : DenOk K S ps v d) : EnvOk K S ps (σ.set i (some v)) (ρ.set i (some d)) := ⟨by simp [h.len], fun j x q => by
  by_cases hj : i = j
  · subst hj
    have hl := (List.getElem?_eq_some_iff.mp q).1
    rw [List.length_set] at hl
    rw [List.getElem?_set_self hl] at q
    cases q
    exact ⟨v, List.getElem?_set_self (by rw [← h.len]; exact hl), hd⟩
  · rw [List.getElem?_set_ne hj] at q ⊢
    exact h.get j x q⟩
theorem EnvOk.forget {i : Nat} (h : EnvOk K S ps σ ρ) : EnvOk K S ps σ (ρ.set i none) := ⟨by simp [h.len], fun j x q => by
  by_cases hj : i = j
  · subst hj
    have hl := (List.getElem?_eq_some_iff.mp q).1
    rw [List.length_set] at hl
    rw [List.getElem?_set_self hl] at q
    cases q
  · rw [List.getElem?_set_ne hj] at q
    exact h.get j x q⟩
/-- slots forgotten -/
def forg (ρ : DEnv) : List Nat → DEnv
  | [] => ρ
  | i :: is => (forg ρ is).set i none
theorem forg_length (ρ : DEnv) : ∀ is : List Nat, (forg ρ is).length = ρ.length
  | [] => rfl
  | i :: is => by unfold forg; rw [List.length_set, forg_length ρ is]
theorem EnvOk.forg (h : EnvOk K S ps σ ρ) : ∀ is : List Nat, EnvOk K S ps σ (forg ρ is)
  | [] => h
  | _ :: is => (EnvOk.forg h is).forget
theorem EnvOk.wipe (h : EnvOk K S ps σ ρ) : ∀ is : List Nat, EnvOk K S ps (L2.wipe σ is) (DL.forg ρ is)
  | [] => h
  | i :: is => ⟨by unfold L2.wipe DL.forg; simp [(EnvOk.wipe h is).len], fun j x q => by
      unfold DL.forg at q
      unfold L2.wipe
      by_cases hj : i = j
      · subst hj
        have hl := (List.getElem?_eq_some_iff.mp q).1
        rw [List.length_set] at hl
        rw [List.getElem?_set_self hl] at q
        cases q
      · rw [List.getElem?_set_ne hj] at q ⊢
        exact (EnvOk.wipe h is).get j x q⟩
/-- all that is told of the slots in ρ', is told in ρ -/
def Less (ρ' ρ : DEnv) : Prop := ρ'.length = ρ.length ∧ ∀ (i : Nat) (d : Den), ρ'[i]? = some (some d) → ρ[i]? = some (some d)
theorem EnvOk.less {ρ' : DEnv} (h : EnvOk K S ps σ ρ) (l : Less ρ' ρ) : EnvOk K S ps σ ρ' := ⟨l.1.trans h.len, fun i d q => h.get i d (l.2 i d q)⟩
/-! ### the items of what may be walked -/
def items (C : List Cont) : Den → Option (List Den)
  | .dat (.list ds) => some (ds.map .dat)
  | .dat (.tuple ds) => some (ds.map .dat)
  | .rdl ds => some (ds.map .dat)
  | .own k => match C[k]? with
    | some (.lst xs) => some xs
    | _ => none
  | _ => none
theorem Core.seq {v : V} {d : Den} {xs : List Den} (c : Core K S ps C H) (h : DenOk K S ps v d) (hx : items C d = some xs) : ∃ a vs, v = .ref a ∧ (SqL K H a vs ∨ SqT K H a vs) ∧ DensOk K S ps vs xs := by
  cases d with
  | dat d =>
    cases d with
    | list ds =>
      cases hx
      cases h with
      | lst h1 h2 => exact ⟨_, _, rfl, .inl (SqL.of (c.sub _ _ h1)), h2.dens⟩
    | tuple ds =>
      cases hx
      cases h with
      | tup h1 h2 => exact ⟨_, _, rfl, .inr (same_seqT c.sub h1), h2.dens⟩
    | _ => cases hx
  | own k =>
    obtain ⟨p, h1, h2⟩ := h
    simp only [items] at hx
    split at hx
    · rename_i ys hC
      cases hx
      obtain ⟨vs, e1, e2⟩ := c.cont k p _ h1 hC
      exact ⟨p, vs, h2, .inl (SqL.of e1), e2⟩
    · cases hx
  | rdl ds =>
    cases hx
    obtain ⟨a, vs, h1, h2, h3⟩ := h
    exact ⟨a, vs, h1, .inl (c.sub.seq h2), h3.dens⟩
  | ty n => cases hx
end
end DL
/-! DL, second part: the judgements over data -/
namespace DL
open PySem PySem.Spec PyProof.Rows L2
structure Gx where
  P : Program
  w : World
  K : PySem.W.Frag
  mg : Str → Option Value
  base : Heap
/-- where one stands, as far as the rules ask -/
structure Cfg where
  g : Gx
  N : List Str
  sc : Scope
  fnm : Str → Bool
  kr : Nat
abbrev Cfg.K (c : Cfg) : PySem.W.Frag := c.g.K
structure XOk (c : Cfg) (X : Cx) : Prop where
  prog : X.prog = c.g.P
  w : X.w = c.g.w
  K : X.K = c.g.K
  mg : X.mg = c.g.mg
  base : X.base = c.g.base
  N : X.N = c.N
  nd : X.N.Nodup
  sc : X.env.scope = c.sc
  fn : X.fn = c.fnm
  calm : X.calm = true
  nox : X.xe = fun _ _ => False
  room : Room c.kr X.A
  grd : X.A.guards = some []
/-! ### the widest readings -/
section
variable {X : Cx} {e iter tg : Expr} {es : List Expr} {st : Stmt} {sts : List Stmt} {σ : L2.St} {H : Hp}
def EE (X : Cx) (e : Expr) : TE := fun σ H Q => ∃ t, PE X e t ∧ t σ H Q
def EB (X : Cx) (e : Expr) : TT := fun σ H Q => ∃ t, PT X e t ∧ t σ H Q
def EW (X : Cx) (e : Expr) : TT := fun σ H Q => ∃ t, PW X e t ∧ t σ H Q
def EAs (X : Cx) (es : List Expr) : TA := fun σ H Q => ∃ t, PA X es t ∧ t σ H Q
def ES (X : Cx) (st : Stmt) : TS := fun D σ H => ∃ t, PS X st t ∧ t D σ H
def ESs (X : Cx) (st : List Stmt) : TS := fun D σ H => ∃ t, PSs X st t ∧ t D σ H
def EI (X : Cx) (tg iter : Expr) : TI := fun σ H R => ∃ t, PI X tg iter t ∧ t σ H R
def EG (X : Cx) (tg : Expr) : TG := fun v σ H Q => ∃ t, PG X tg t ∧ t v σ H Q
def EGs (X : Cx) (tgs : List Expr) : TGs := fun v σ H Q => ∃ t, PGs X tgs t ∧ t v σ H Q
def EO (X : Cx) (f : Value → Value → Sem Value) : R2 := fun x y H Q => ∃ r, OpR X f r ∧ r x y H Q
theorem EE.pe : PE X e (EE X e) := ⟨fun pins s σ H Q I ⟨_, h, q⟩ => h.run pins s σ H Q I q⟩
theorem EB.pt : PT X e (EB X e) := ⟨fun pins s σ H Q I ⟨_, h, q⟩ => h.run pins s σ H Q I q⟩
theorem EW.pw : PW X e (EW X e) := ⟨fun w pins s σ H Q I ⟨_, h, q⟩ => h.run w pins s σ H Q I q⟩
theorem EAs.pa : PA X es (EAs X es) := ⟨fun pos pins s σ H Q I ⟨_, h, q⟩ => h.run pos pins s σ H Q I q⟩
theorem ES.ps : PS X st (ES X st) := ⟨fun pins s σ H D I ⟨_, h, q⟩ => h.run pins s σ H D I q⟩
theorem ESs.pss : PSs X sts (ESs X sts) := ⟨fun pins s σ H D I ⟨_, h, q⟩ => h.run pins s σ H D I q⟩
theorem EI.pi : PI X tg iter (EI X tg iter) := ⟨fun pins s σ H R I ⟨_, h, q⟩ => h.run pins s σ H R I q⟩
theorem EG.pg : PG X tg (EG X tg) := ⟨fun pins s σ H v u Q I r ⟨_, h, q⟩ => h.run pins s σ H v u Q I r q⟩
theorem EGs.pgs : PGs X es (EGs X es) := ⟨fun pins s σ H v u Q I r ⟨_, h, q⟩ => h.run pins s σ H v u Q I r q⟩
theorem EO.op {f : Value → Value → Sem Value} : OpR X f (EO X f) := fun pins s σ H x y v u Q I r1 r2 ⟨_, h, q⟩ => h pins s σ H x y v u Q I r1 r2 q
theorem EE.of {t : TE} {Q : VK} (h : PE X e t) (q : t σ H Q) : EE X e σ H Q := ⟨t, h, q⟩
theorem EB.of {t : TT} {Q : Bool → Hp → Prop} (h : PT X e t) (q : t σ H Q) : EB X e σ H Q := ⟨t, h, q⟩
theorem EW.of {t : TT} {Q : Bool → Hp → Prop} (h : PW X e t) (q : t σ H Q) : EW X e σ H Q := ⟨t, h, q⟩
theorem EAs.of {t : TA} {Q : List V → Hp → Prop} (h : PA X es t) (q : t σ H Q) : EAs X es σ H Q := ⟨t, h, q⟩
theorem ES.of {t : TS} {D : Ends} (h : PS X st t) (q : t D σ H) : ES X st D σ H := ⟨t, h, q⟩
theorem ESs.of {t : TS} {D : Ends} (h : PSs X sts t) (q : t D σ H) : ESs X sts D σ H := ⟨t, h, q⟩
theorem EI.of {t : TI} {R : It → Hp → Prop} (h : PI X tg iter t) (q : t σ H R) : EI X tg iter σ H R := ⟨t, h, q⟩
theorem EG.of {t : TG} {v : V} {Q : L2.St → Hp → Prop} (h : PG X tg t) (q : t v σ H Q) : EG X tg v σ H Q := ⟨t, h, q⟩
theorem EGs.of {t : TGs} {v : List V} {Q : L2.St → Hp → Prop} (h : PGs X es t) (q : t v σ H Q) : EGs X es v σ H Q := ⟨t, h, q⟩
end
/-! ### the judgements -/
def PostV (K : PySem.W.Frag) (S : Hp) (ps : List Addr) (H : Hp) (P : Den → List Cont → Prop) (Q : VK) : Prop :=
  ∀ (S' : Hp) (ps' : List Addr) (H' : Hp) (C' : List Cont) (v : V) (d : Den), Ext S ps H S' ps' H' → Core K S' ps' C' H' → DenOk K S' ps' v d → P d C' → Q v H'
def PostB (K : PySem.W.Frag) (S : Hp) (ps : List Addr) (H : Hp) (P : Bool → List Cont → Prop) (Q : Bool → Hp → Prop) : Prop :=
  ∀ (S' : Hp) (ps' : List Addr) (H' : Hp) (C' : List Cont) (b : Bool), Ext S ps H S' ps' H' → Core K S' ps' C' H' → P b C' → Q b H'
def PostA (K : PySem.W.Frag) (S : Hp) (ps : List Addr) (H : Hp) (P : List Den → List Cont → Prop) (Q : List V → Hp → Prop) : Prop :=
  ∀ (S' : Hp) (ps' : List Addr) (H' : Hp) (C' : List Cont) (vs : List V) (ds : List Den), Ext S ps H S' ps' H' → Core K S' ps' C' H' → DensOk K S' ps' vs ds → P ds C' → Q vs H'
def PostE (K : PySem.W.Frag) (S : Hp) (ps : List Addr) (H : Hp) (P : DEnv → List Cont → Prop) (Q : L2.St → Hp → Prop) : Prop :=
  ∀ (S' : Hp) (ps' : List Addr) (H' : Hp) (C' : List Cont) (σ : L2.St) (ρ : DEnv), Ext S ps H S' ps' H' → Core K S' ps' C' H' → EnvOk K S' ps' σ ρ → P ρ C' → Q σ H'
structure DEnds where
  nx : DEnv → List Cont → Prop
  rt : Den → List Cont → Prop
  bk : DEnv → List Cont → Prop := fun _ _ => False
  ct : DEnv → List Cont → Prop := fun _ _ => False
structure EndsOk (K : PySem.W.Frag) (S : Hp) (ps : List Addr) (H : Hp) (D : DEnds) (E : Ends) : Prop where
  nx : PostE K S ps H D.nx E.nx
  rt : PostV K S ps H D.rt E.rt
  bk : PostE K S ps H D.bk E.bk
  ct : PostE K S ps H D.ct E.ct
section
variable {K : PySem.W.Frag} {S S1 H H1 : Hp} {ps ps1 : List Addr}
theorem PostV.ext {P : Den → List Cont → Prop} {Q : VK} (e : Ext S ps H S1 ps1 H1) (h : PostV K S ps H P Q) : PostV K S1 ps1 H1 P Q := fun S' ps' H' C' v d e' c o p => h S' ps' H' C' v d (e.trans e') c o p
theorem PostB.ext {P : Bool → List Cont → Prop} {Q : Bool → Hp → Prop} (e : Ext S ps H S1 ps1 H1) (h : PostB K S ps H P Q) : PostB K S1 ps1 H1 P Q := fun S' ps' H' C' b e' c p => h S' ps' H' C' b (e.trans e') c p
theorem PostA.ext {P : List Den → List Cont → Prop} {Q : List V → Hp → Prop} (e : Ext S ps H S1 ps1 H1) (h : PostA K S ps H P Q) : PostA K S1 ps1 H1 P Q := fun S' ps' H' C' v d e' c o p => h S' ps' H' C' v d (e.trans e') c o p
theorem PostE.ext {P : DEnv → List Cont → Prop} {Q : L2.St → Hp → Prop} (e : Ext S ps H S1 ps1 H1) (h : PostE K S ps H P Q) : PostE K S1 ps1 H1 P Q := fun S' ps' H' C' v d e' c o p => h S' ps' H' C' v d (e.trans e') c o p
theorem EndsOk.ext {D : DEnds} {E : Ends} (e : Ext S ps H S1 ps1 H1) (h : EndsOk K S ps H D E) : EndsOk K S1 ps1 H1 D E := ⟨h.nx.ext e, h.rt.ext e, h.bk.ext e, h.ct.ext e⟩
end
section
variable (c : Cfg)
/-- e is evaluated, P holds of its value and of what is owned then -/
def Ev (e : Expr) (ρ : DEnv) (C : List Cont) (P : Den → List Cont → Prop) : Prop :=
  ∀ X, XOk c X → ∀ (S : Hp) (ps : List Addr) (σ : L2.St) (H : Hp), Core c.g.K S ps C H → EnvOk c.g.K S ps σ ρ → ∀ Q : VK, PostV c.g.K S ps H P Q → EE X e σ H Q
def Et (e : Expr) (ρ : DEnv) (C : List Cont) (P : Bool → List Cont → Prop) : Prop :=
  ∀ X, XOk c X → ∀ (S : Hp) (ps : List Addr) (σ : L2.St) (H : Hp), Core c.g.K S ps C H → EnvOk c.g.K S ps σ ρ → ∀ Q : Bool → Hp → Prop, PostB c.g.K S ps H P Q → EB X e σ H Q
def Ew (e : Expr) (ρ : DEnv) (C : List Cont) (P : Bool → List Cont → Prop) : Prop :=
  ∀ X, XOk c X → ∀ (S : Hp) (ps : List Addr) (σ : L2.St) (H : Hp), Core c.g.K S ps C H → EnvOk c.g.K S ps σ ρ → ∀ Q : Bool → Hp → Prop, PostB c.g.K S ps H P Q → EW X e σ H Q
def Ea (es : List Expr) (ρ : DEnv) (C : List Cont) (P : List Den → List Cont → Prop) : Prop :=
  ∀ X, XOk c X → ∀ (S : Hp) (ps : List Addr) (σ : L2.St) (H : Hp), Core c.g.K S ps C H → EnvOk c.g.K S ps σ ρ → ∀ Q : List V → Hp → Prop, PostA c.g.K S ps H P Q → EAs X es σ H Q
/-- an operation by values -/
def Op0 (rd : Cx → List V → Hp → VK → Prop) (ds : List Den) (C : List Cont) (P : Den → List Cont → Prop) : Prop :=
  ∀ X, XOk c X → ∀ (S : Hp) (ps : List Addr) (H : Hp) (vs : List V), Core c.g.K S ps C H → DensOk c.g.K S ps vs ds → ∀ Q : VK, PostV c.g.K S ps H P Q → rd X vs H Q
/-- a statement, a block -/
def S1 (st : Stmt) (ρ : DEnv) (C : List Cont) (D : DEnds) : Prop :=
  ∀ X, XOk c X → ∀ (S : Hp) (ps : List Addr) (σ : L2.St) (H : Hp), Core c.g.K S ps C H → EnvOk c.g.K S ps σ ρ → ∀ E : Ends, EndsOk c.g.K S ps H D E → ES X st E σ H
def Ss (sts : List Stmt) (ρ : DEnv) (C : List Cont) (D : DEnds) : Prop :=
  ∀ X, XOk c X → ∀ (S : Hp) (ps : List Addr) (σ : L2.St) (H : Hp), Core c.g.K S ps C H → EnvOk c.g.K S ps σ ρ → ∀ E : Ends, EndsOk c.g.K S ps H D E → ESs X sts E σ H
/-- a target gets a value -/
def Gt (tg : Expr) (d : Den) (ρ : DEnv) (C : List Cont) (P : DEnv → List Cont → Prop) : Prop :=
  ∀ X, XOk c X → ∀ (S : Hp) (ps : List Addr) (σ : L2.St) (H : Hp) (v : V), Core c.g.K S ps C H → EnvOk c.g.K S ps σ ρ → DenOk c.g.K S ps v d → ∀ Q : L2.St → Hp → Prop, PostE c.g.K S ps H P Q → EG X tg v σ H Q
def Gts (tgs : List Expr) (ds : List Den) (ρ : DEnv) (C : List Cont) (P : DEnv → List Cont → Prop) : Prop :=
  ∀ X, XOk c X → ∀ (S : Hp) (ps : List Addr) (σ : L2.St) (H : Hp) (vs : List V), Core c.g.K S ps C H → EnvOk c.g.K S ps σ ρ → DensOk c.g.K S ps vs ds → ∀ Q : L2.St → Hp → Prop, PostE c.g.K S ps H P Q → EGs X tgs vs σ H Q
end
/-- J gives xs one by one while G holds of what is owned -/
structure IterOk (K : PySem.W.Frag) (S : Hp) (ps : List Addr) (J : It) (xs : List Den) (G : List Cont → Prop) : Prop where
  go : ∀ (S' : Hp) (qs : List Addr) (C : List Cont) (H : Hp) (i : Nat), Same S S' → Core K S' (ps ++ qs) C H → G C → i < xs.length → J.go i H
  stop : ∀ (S' : Hp) (qs : List Addr) (C : List Cont) (H : Hp), Same S S' → Core K S' (ps ++ qs) C H → G C → J.stop xs.length H
  yld : ∀ (S' : Hp) (qs : List Addr) (C : List Cont) (H : Hp) (i : Nat) (x : V) (H3 : Hp), Same S S' → Core K S' (ps ++ qs) C H → G C → i < xs.length → J.yld i H x H3 →
    ∃ (S3 : Hp) (d : Den), Ext S' (ps ++ qs) H S3 (ps ++ qs) H3 ∧ Core K S3 (ps ++ qs) C H3 ∧ xs[i]? = some d ∧ DenOk K S3 (ps ++ qs) x d
/-- what a for walks: its items, and while what it stands -/
def Ei (c : Cfg) (tg iter : Expr) (ρ : DEnv) (C : List Cont) (P : List Den → (List Cont → Prop) → List Cont → Prop) : Prop :=
  ∀ X, XOk c X → ∀ (S : Hp) (ps : List Addr) (σ : L2.St) (H : Hp), Core c.g.K S ps C H → EnvOk c.g.K S ps σ ρ → ∀ R : It → Hp → Prop,
    (∀ (S' : Hp) (ps' : List Addr) (H' : Hp) (C' : List Cont) (J : It) (xs : List Den) (G : List Cont → Prop), Ext S ps H S' ps' H' → Core c.g.K S' ps' C' H' → IterOk c.g.K S' ps' J xs G → P xs G C' → R J H') → EI X tg iter σ H R
section
variable {c : Cfg} {ρ : DEnv} {C : List Cont} {P : Den → List Cont → Prop} {PB : Bool → List Cont → Prop} {PL : List Den → List Cont → Prop} {a b e x y : Expr} {es : List Expr} {pos : Pos}
/-- weaken what is wanted -/
theorem Ev.mono {P' : Den → List Cont → Prop} (h : Ev c e ρ C P') (f : ∀ d C, P' d C → P d C) : Ev c e ρ C P := fun X hX S ps σ H hc he Q k => h X hX S ps σ H hc he Q fun S' ps' H' C' v d e c o p => k S' ps' H' C' v d e c o (f d C' p)
theorem Op0.mono {rd : Cx → List V → Hp → VK → Prop} {ds : List Den} {P' : Den → List Cont → Prop} (h : Op0 c rd ds C P') (f : ∀ d C, P' d C → P d C) : Op0 c rd ds C P := fun X hX S ps H vs hc he Q k => h X hX S ps H vs hc he Q fun S' ps' H' C' v d e c o p => k S' ps' H' C' v d e c o (f d C' p)
theorem Et.mono {P' : Bool → List Cont → Prop} (h : Et c e ρ C P') (f : ∀ d C, P' d C → PB d C) : Et c e ρ C PB := fun X hX S ps σ H hc he Q k => h X hX S ps σ H hc he Q fun S' ps' H' C' d e c p => k S' ps' H' C' d e c (f d C' p)
/-! ### names and constants -/
theorem vis_of {sc : Scope} {x : Str} {k : NameKind} (h : sc.names.lookup x = some k) (hk : k = .local ∨ k = .cell ∨ k = .free) : Vis sc x := by
  rcases hk with rfl | rfl | rfl
  · exact .inl h
  · exact .inr (.inl h)
  · exact .inr (.inr h)
/-- a name's kind is one of a def's own -/
def visB (sc : Scope) (x : Str) : Bool := match sc.names.lookup x with
  | some .local => true
  | some .cell => true
  | some .free => true
  | _ => false
theorem vis_b {sc : Scope} {x : Str} (h : visB sc x = true) : Vis sc x := by
  unfold visB at h
  split at h
  · exact .inl (by assumption)
  · exact .inr (.inl (by assumption))
  · exact .inr (.inr (by assumption))
  · cases h
def locB (sc : Scope) (fnm : Str → Bool) (x : Str) : Bool := match sc.names.lookup x with
  | some .local => true
  | some .cell => fnm x
  | _ => false
theorem loc_b {sc : Scope} {fnm : Str → Bool} {x : Str} (h : locB sc fnm x = true) : Loc sc x ∧ (fnm x = true ∨ sc.names.lookup x = some .local) := by
  unfold locB at h
  split at h
  · exact ⟨.inl (by assumption), .inr (by assumption)⟩
  · exact ⟨.inr (by assumption), .inl h⟩
  · cases h
def glB (sc : Scope) (x : Str) : Bool := match sc.names.lookup x with
  | some .globalImplicit => true
  | _ => false
theorem gl_b {X : Cx} {x : Str} (hX : XOk c X) (h : glB c.sc x = true) : Gl X x := by
  unfold glB at h
  split at h
  · show X.env.scope.names.lookup x = _
    rw [hX.sc]
    assumption
  · cases h
/-- a name is none of the two that are read otherwise -/
def okName (x : Str) : Bool := !(x == ("__debug__" : Str)) && !(x == ("__classdict__" : Str)) && !(x == ("__name__" : Str))
theorem ok_name {x : Str} (h : okName x = true) : (x == ("__debug__" : Str)) = false ∧ (x == ("__classdict__" : Str)) = false ∧ x ≠ "__name__" := by
  unfold okName at h
  simp only [Bool.and_eq_true, Bool.not_eq_true'] at h
  exact ⟨h.1.1, h.1.2, fun z => by rw [z] at h; simp at h⟩
theorem ev_name {x : Str} (i : Nat) {d : Den} (hN : c.N[i]? = some x) (hv : (visB c.sc x && okName x) = true) (hd : ρ[i]? = some (some d)) (h : P d C) : Ev c (.Name x pos) ρ C P := by
  intro X hX S ps σ H hc he Q k
  obtain ⟨v, e1, e2⟩ := he.get i d hd
  simp only [Bool.and_eq_true] at hv
  obtain ⟨h1, h2, _⟩ := ok_name hv.2
  exact EE.of (pe_var (i := i) (by rw [hX.N]; exact hN) (by rw [hX.sc]; exact vis_b hv.1) h1 h2) ⟨v, e1, k S ps H C v d .refl hc e2 h⟩
theorem ev_int {i : Int} {j : Nat} (h : P (DI i) C) : Ev c (.Constant (.int i) j pos) ρ C P := fun X hX S ps σ H hc he Q k => EE.of pe_int (k S ps H C _ (DI i) .refl hc (Rp.int i) h)
theorem ev_bool {i : Bool} {j : Nat} (h : P (DB i) C) : Ev c (.Constant (.bool i) j pos) ρ C P := fun X hX S ps σ H hc he Q k => EE.of pe_bl (k S ps H C _ (DB i) .refl hc (Rp.bl i) h)
theorem ev_str {x : Str} {j : Nat} (h : P (DS x) C) : Ev c (.Constant (.str x) j pos) ρ C P := fun X hX S ps σ H hc he Q k => EE.of pe_str (k S ps H C _ (DS x) .refl hc (Rp.str x) h)
theorem ev_none {j : Nat} (h : P DN C) : Ev c (.Constant .none j pos) ρ C P := fun X hX S ps σ H hc he Q k => EE.of pe_non (k S ps H C _ DN .refl hc Rp.non h)
/-! ### operators -/
def bR (f : Value → Value → Sem Value) : Cx → List V → Hp → VK → Prop := fun X vs H Q => ∃ x y, vs = [x, y] ∧ EO X f x y H Q
def uR (f : Value → Sem Value) : Cx → List V → Hp → VK → Prop := fun X vs H Q => ∃ x r, vs = [x] ∧ UnR X f r ∧ r x H Q
def xR : Cx → List V → Hp → VK → Prop := fun X vs H Q => ∃ x y r, vs = [x, y] ∧ IxR X r ∧ r x y H Q
def cR (f : Value) : Cx → List V → Hp → VK → Prop := fun X vs H Q => ∃ r, CallR X f r ∧ r vs H Q
def iR (op : Operator) : Cx → List V → Hp → VK → Prop := fun X vs H Q => ∃ x y t, vs = [x, y] ∧ PIp X op t ∧ t x y H Q
/-- an operation's name -/
inductive Rd where
  | b (o : Operator)
  | c (o : CmpOp)
  | u (o : UnaryOp)
  | i (o : Operator)
  | x
  | f (v : Value)
def Rd.fn : Rd → Cx → List V → Hp → VK → Prop
  | .b o => bR (binaryOp o)
  | .c o => bR (compareOp o)
  | .u o => uR (unaryOp o)
  | .i o => iR o
  | .x => xR
  | .f v => cR v
structure Op (c : Cfg) (r : Rd) (ds : List Den) (C : List Cont) (P : Den → List Cont → Prop) : Prop where
  run : Op0 c r.fn ds C P
theorem Op.mono {r : Rd} {ds : List Den} {P' : Den → List Cont → Prop} (h : Op c r ds C P') (f : ∀ d C, P' d C → P d C) : Op c r ds C P := ⟨Op0.mono h.run f⟩
theorem ev_bin {op : Operator} (h : Ev c a ρ C fun d1 C1 => Ev c b ρ C1 fun d2 C2 => Op c (.b op) [d1, d2] C2 P) : Ev c (.BinOp a op b pos) ρ C P := by
  intro X hX S ps σ H hc he Q k
  refine EE.of (pe_op EO.op EE.pe EE.pe) ?_
  refine h X hX S ps σ H hc he _ fun S1 ps1 H1 C1 v1 d1 e1 c1 o1 h1 => ?_
  refine h1 X hX S1 ps1 σ H1 c1 (he.ext e1) _ fun S2 ps2 H2 C2 v2 d2 e2 c2 o2 h2 => ?_
  obtain ⟨x, y, e, q⟩ := h2.run X hX S2 ps2 H2 [v1, v2] c2 (.cons (e2.den o1) (.cons o2 .nil)) Q (k.ext (e1.trans e2))
  cases e
  exact q
theorem ev_cmp {op : CmpOp} (hm : behindInMarks op b = false) (h : Ev c a ρ C fun d1 C1 => Ev c b ρ C1 fun d2 C2 => Op c (.c op) [d1, d2] C2 P) : Ev c (.Compare a [op] [b] pos) ρ C P := by
  intro X hX S ps σ H hc he Q k
  refine EE.of (pe_cmpR EO.op EE.pe EE.pe hm) ?_
  refine h X hX S ps σ H hc he _ fun S1 ps1 H1 C1 v1 d1 e1 c1 o1 h1 => ?_
  refine h1 X hX S1 ps1 σ H1 c1 (he.ext e1) _ fun S2 ps2 H2 C2 v2 d2 e2 c2 o2 h2 => ?_
  obtain ⟨x, y, e, q⟩ := h2.run X hX S2 ps2 H2 [v1, v2] c2 (.cons (e2.den o1) (.cons o2 .nil)) Q (k.ext (e1.trans e2))
  cases e
  exact q
theorem ev_un {op : UnaryOp} (h : Ev c a ρ C fun d1 C1 => Op c (.u op) [d1] C1 P) : Ev c (.UnaryOp op a pos) ρ C P := by
  intro X hX S ps σ H hc he Q k
  refine EE.of (pe_un (r := fun x H Q => ∃ r, UnR X (unaryOp op) r ∧ r x H Q) (fun pins s σ H x v Q I r1 ⟨_, h, q⟩ => h pins s σ H x v Q I r1 q) EE.pe) ?_
  refine h X hX S ps σ H hc he _ fun S1 ps1 H1 C1 v1 d1 e1 c1 o1 h1 => ?_
  obtain ⟨x, r, e, q⟩ := h1.run X hX S1 ps1 H1 [v1] c1 (.cons o1 .nil) Q (k.ext e1)
  cases e
  exact ⟨r, q⟩
theorem ev_ix (hs : PlainIx b) (h : Ev c a ρ C fun d1 C1 => Ev c b ρ C1 fun d2 C2 => Op c .x [d1, d2] C2 P) : Ev c (.Subscript a b pos) ρ C P := by
  intro X hX S ps σ H hc he Q k
  refine EE.of (pe_ix (r := fun x y H Q => ∃ r, IxR X r ∧ r x y H Q) (fun v s pins st σ H x y v' u Q I r1 r2 ⟨_, h, q⟩ z => h v s pins st σ H x y v' u Q I r1 r2 q z) EE.pe EE.pe hs) ?_
  refine h X hX S ps σ H hc he _ fun S1 ps1 H1 C1 v1 d1 e1 c1 o1 h1 => ?_
  refine h1 X hX S1 ps1 σ H1 c1 (he.ext e1) _ fun S2 ps2 H2 C2 v2 d2 e2 c2 o2 h2 => ?_
  obtain ⟨x, y, r, e, q⟩ := h2.run X hX S2 ps2 H2 [v1, v2] c2 (.cons (e2.den o1) (.cons o2 .nil)) Q (k.ext (e1.trans e2))
  cases e
  exact ⟨r, q⟩
/-! ### tests -/
theorem et_cmp {op : CmpOp} (hm : behindInMarks op b = false) (h : Ev c a ρ C fun d1 C1 => Ev c b ρ C1 fun d2 C2 => Op c (.c op) [d1, d2] C2 fun d C3 => ∃ k, d = DB k ∧ PB k C3) : Et c (.Compare a [op] [b] pos) ρ C PB := by
  intro X hX S ps σ H hc he Q k
  refine EB.of (pt_cmpR EO.op EE.pe EE.pe hm) ?_
  refine h X hX S ps σ H hc he _ fun S1 ps1 H1 C1 v1 d1 e1 c1 o1 h1 => ?_
  refine h1 X hX S1 ps1 σ H1 c1 (he.ext e1) _ fun S2 ps2 H2 C2 v2 d2 e2 c2 o2 h2 => ?_
  obtain ⟨x, y, e, q⟩ := h2.run X hX S2 ps2 H2 [v1, v2] c2 (.cons (e2.den o1) (.cons o2 .nil)) (fun x H' => ∃ k, x = .bl k ∧ Q k H') (fun S3 ps3 H3 C3 v d e3 c3 o3 hz => by
    obtain ⟨z, hz, hp⟩ := hz
    subst hz
    cases o3
    exact ⟨z, rfl, k S3 ps3 H3 C3 z ((e1.trans e2).trans e3) c3 hp⟩)
  cases e
  exact q
/-- an expression of another form as a test: a truth -/
def TestForm (e : Expr) : Prop := ∀ (env : Env) (whole : Sem Value), isTrue e env whole = (do let v ← whole; standAt e.pos; holding [v] (truthy v))
theorem et_val (hf : TestForm e) (h : Ev c e ρ C fun d C1 => ∃ k, d = DB k ∧ PB k C1) : Et c e ρ C PB := by
  intro X hX S ps σ H hc he Q k
  refine EB.of (pt_val EE.pe (hf X.env)) ?_
  exact h X hX S ps σ H hc he _ fun S1 ps1 H1 C1 v1 d1 e1 c1 o1 ⟨z, hz, hp⟩ => by
    subst hz
    cases o1
    exact ⟨z, rfl, k S1 ps1 H1 C1 z e1 c1 hp⟩
/-- what a value's truth is -/
def truthD (C : List Cont) : Den → Option Bool
  | .dat .none => some false
  | .dat (.bool b) => some b
  | .dat (.int i) => some (i != 0)
  | d => (items C d).map fun xs => !xs.isEmpty
theorem et_truth (hf : TestForm e) (h : Ev c e ρ C fun d C1 => ∃ k, truthD C1 d = some k ∧ PB k C1) : Et c e ρ C PB := by
  intro X hX S ps σ H hc he Q k
  refine EB.of (pt_truth EE.pe (hf X.env)) ?_
  refine h X hX S ps σ H hc he _ fun S1 ps1 H1 C1 v1 d1 e1 c1 o1 ⟨z, hz, hp⟩ => ⟨z, ?_, k S1 ps1 H1 C1 z e1 c1 hp⟩
  have seq : ∀ xs, items C1 d1 = some xs → z = !xs.isEmpty → TruV X.K v1 H1 z := fun xs hxs hzz => by
    obtain ⟨p, vs, rfl, hq, hv⟩ := c1.seq o1 hxs
    have hl : vs.isEmpty = xs.isEmpty := by cases hv <;> rfl
    rw [hX.K]
    rcases hq with hq | hq
    · exact .inl ⟨vs, hq, by rw [hl]; exact hzz⟩
    · exact .inr (.inl ⟨vs, hq, by rw [hl]; exact hzz⟩)
  have other : ∀ o : Option (List Den), items C1 d1 = o → (o.map fun xs => !xs.isEmpty) = some z → TruV X.K v1 H1 z := fun o ho hoz => by
    cases o with
    | none => cases hoz
    | some xs => exact seq xs ho (Option.some.inj hoz).symm
  cases d1 with
  | dat d =>
    cases d with
    | none => cases o1; exact (Option.some.inj hz).symm
    | bool b => cases o1; exact (Option.some.inj hz).symm
    | int i => cases o1; exact (Option.some.inj hz).symm
    | _ => exact other _ rfl hz
  | _ => exact other _ rfl hz
theorem et_not (h : Et c a ρ C fun k C1 => PB (!k) C1) : Et c (.UnaryOp .Not a pos) ρ C PB := fun X hX S ps σ H hc he Q k =>
  EB.of (pt_not EB.pt) (h X hX S ps σ H hc he _ fun S1 ps1 H1 C1 z e1 c1 hp => k S1 ps1 H1 C1 (!z) e1 c1 hp)
theorem et_bool {op : BoolOp} (h : Ew c (.BoolOp op es pos) ρ C PB) : Et c (.BoolOp op es pos) ρ C PB := fun X hX S ps σ H hc he Q k => EB.of (EW.pw).pt (h X hX S ps σ H hc he Q k)
theorem ew_and1 (h : Et c a ρ C PB) : Ew c (.BoolOp .And [a] pos) ρ C PB := fun X hX S ps σ H hc he Q k => EW.of (pw_and1 EB.pt) (h X hX S ps σ H hc he Q k)
theorem ew_or1 (h : Et c a ρ C PB) : Ew c (.BoolOp .Or [a] pos) ρ C PB := fun X hX S ps σ H hc he Q k => EW.of (pw_or1 EB.pt) (h X hX S ps σ H hc he Q k)
theorem ew_and (h : Et c a ρ C fun k C1 => (k = true → Ew c (.BoolOp .And (b :: es) pos) ρ C1 PB) ∧ (k = false → PB false C1)) : Ew c (.BoolOp .And (a :: b :: es) pos) ρ C PB := fun X hX S ps σ H hc he Q k =>
  EW.of (pw_and EB.pt EW.pw) (h X hX S ps σ H hc he _ fun S1 ps1 H1 C1 z e1 c1 hp => by
    cases z with
    | true =>
      rw [if_pos rfl]
      exact hp.1 rfl X hX S1 ps1 σ H1 c1 (he.ext e1) Q (k.ext e1)
    | false =>
      rw [if_neg Bool.false_ne_true]
      exact k S1 ps1 H1 C1 false e1 c1 (hp.2 rfl))
theorem ew_or (h : Et c a ρ C fun k C1 => (k = false → Ew c (.BoolOp .Or (b :: es) pos) ρ C1 PB) ∧ (k = true → PB true C1)) : Ew c (.BoolOp .Or (a :: b :: es) pos) ρ C PB := fun X hX S ps σ H hc he Q k =>
  EW.of (pw_or EB.pt EW.pw) (h X hX S ps σ H hc he _ fun S1 ps1 H1 C1 z e1 c1 hp => by
    cases z with
    | false =>
      rw [if_neg Bool.false_ne_true]
      exact hp.1 rfl X hX S1 ps1 σ H1 c1 (he.ext e1) Q (k.ext e1)
    | true =>
      rw [if_pos rfl]
      exact k S1 ps1 H1 C1 true e1 c1 (hp.2 rfl))
/-! .. as values -/
theorem ev_one {op : BoolOp} (h : Ev c a ρ C P) : Ev c (.BoolOp op [a] pos) ρ C P := fun X hX S ps σ H hc he Q k => EE.of (pe_one EE.pe) (h X hX S ps σ H hc he Q k)
theorem ev_and (h : Ev c a ρ C fun d C1 => ∃ k, d = DB k ∧ (k = true → Ev c (.BoolOp .And (b :: es) pos) ρ C1 P) ∧ (k = false → P (DB false) C1)) : Ev c (.BoolOp .And (a :: b :: es) pos) ρ C P := fun X hX S ps σ H hc he Q k =>
  EE.of (pe_and EE.pe EE.pe) (h X hX S ps σ H hc he _ fun S1 ps1 H1 C1 v d e1 c1 o1 ⟨z, hz, hp⟩ => by
    subst hz
    cases o1
    refine ⟨z, rfl, ?_⟩
    cases z with
    | true =>
      rw [if_pos rfl]
      exact hp.1 rfl X hX S1 ps1 σ H1 c1 (he.ext e1) Q (k.ext e1)
    | false =>
      rw [if_neg Bool.false_ne_true]
      exact k S1 ps1 H1 C1 _ (DB false) e1 c1 (Rp.bl false) (hp.2 rfl))
theorem ev_or (h : Ev c a ρ C fun d C1 => ∃ k, d = DB k ∧ (k = false → Ev c (.BoolOp .Or (b :: es) pos) ρ C1 P) ∧ (k = true → P (DB true) C1)) : Ev c (.BoolOp .Or (a :: b :: es) pos) ρ C P := fun X hX S ps σ H hc he Q k =>
  EE.of (pe_or EE.pe EE.pe) (h X hX S ps σ H hc he _ fun S1 ps1 H1 C1 v d e1 c1 o1 ⟨z, hz, hp⟩ => by
    subst hz
    cases o1
    refine ⟨z, rfl, ?_⟩
    cases z with
    | false =>
      rw [if_neg Bool.false_ne_true]
      exact hp.1 rfl X hX S1 ps1 σ H1 c1 (he.ext e1) Q (k.ext e1)
    | true =>
      rw [if_pos rfl]
      exact k S1 ps1 H1 C1 _ (DB true) e1 c1 (Rp.bl true) (hp.2 rfl))
theorem ev_not (h : Ev c a ρ C fun d C1 => ∃ k, d = DB k ∧ P (DB (!k)) C1) : Ev c (.UnaryOp .Not a pos) ρ C P := fun X hX S ps σ H hc he Q k =>
  EE.of (pe_not EE.pe) (h X hX S ps σ H hc he _ fun S1 ps1 H1 C1 v d e1 c1 o1 ⟨z, hz, hp⟩ => by
    subst hz
    cases o1
    exact ⟨z, rfl, k S1 ps1 H1 C1 _ (DB (!z)) e1 c1 (Rp.bl (!z)) hp⟩)
theorem ev_if {t : Expr} (h : Et c t ρ C fun k C1 => (k = true → Ev c a ρ C1 P) ∧ (k = false → Ev c b ρ C1 P)) : Ev c (.IfExp t a b pos) ρ C P := fun X hX S ps σ H hc he Q k =>
  EE.of (pe_ifExp EB.pt EE.pe EE.pe) (h X hX S ps σ H hc he _ fun S1 ps1 H1 C1 z e1 c1 hp => by
    cases z with
    | true =>
      rw [if_pos rfl]
      exact hp.1 rfl X hX S1 ps1 σ H1 c1 (he.ext e1) Q (k.ext e1)
    | false =>
      rw [if_neg Bool.false_ne_true]
      exact hp.2 rfl X hX S1 ps1 σ H1 c1 (he.ext e1) Q (k.ext e1))
/-! ### arguments, displays -/
def plainArg : Expr → Bool
  | .Starred .. => false
  | _ => true
theorem plain_arg {env : Env} (h : plainArg e = true) : starEach (e :: es) env = (false, eval e env) :: starEach es env := by
  cases e with
  | Starred => cases h
  | _ => rfl
def plainArgs (es : List Expr) : Bool := es.all plainArg
theorem plain_back {env : Env} : ∀ {es : List Expr}, plainArgs es = true → ∀ pos, (backTo pos (starEach es env)).any (·.1) = false
  | [], _, pos => by rfl
  | e :: es, h, pos => by
    have h1 : plainArg e = true := by
      unfold plainArgs at h
      rw [List.all_cons, Bool.and_eq_true] at h
      exact h.1
    have h2 : plainArgs es = true := by
      unfold plainArgs at h
      rw [List.all_cons, Bool.and_eq_true] at h
      exact h.2
    rw [plain_arg h1]
    show (false || (backTo pos (starEach es env)).any (·.1)) = false
    rw [plain_back h2 pos]
    rfl
theorem ea_nil (h : PL [] C) : Ea c [] ρ C PL := fun X hX S ps σ H hc he Q k => EAs.of pa_nil (k S ps H C [] [] .refl hc .nil h)
theorem ea_cons (hs : plainArg e = true) (h : Ev c e ρ C fun d C1 => Ea c es ρ C1 fun ds C2 => PL (d :: ds) C2) : Ea c (e :: es) ρ C PL := by
  intro X hX S ps σ H hc he Q k
  refine EAs.of (pa_cons EE.pe EAs.pa (plain_arg hs)) ?_
  refine h X hX S ps σ H hc he _ fun S1 ps1 H1 C1 v1 d1 e1 c1 o1 h1 => ?_
  refine h1 X hX S1 ps1 σ H1 c1 (he.ext e1) _ fun S2 ps2 H2 C2 vs ds e2 c2 o2 h2 => ?_
  exact k S2 ps2 H2 C2 (v1 :: vs) (d1 :: ds) (e1.trans e2) c2 (.cons (e2.den o1) o2) h2
/-- a written tuple of data -/
theorem ev_tup {k : Nat} (h : Ea c es ρ C fun ds C1 => ∃ xs : List PyData, ds = xs.map Den.dat ∧ xs.length ≤ 1000 ∧ P (DTu xs) C1) : Ev c (.Tuple es k pos) ρ C P := by
  intro X hX S ps σ H hc he Q kk
  refine EE.of (pe_tup EAs.pa) ?_
  refine h X hX S ps σ H hc he _ fun S1 ps1 H1 C1 vs ds e1 c1 o1 ⟨xs, hx, hl, hp⟩ => ?_
  subst hx
  refine ⟨?_, fun p hpn => ?_⟩
  · rw [Paired.len o1, List.length_map]
    exact Nat.le_of_lt (small1000 hl)
  · obtain ⟨c2, e2⟩ := c1.laid (o := .tup vs) hpn
    exact kk _ _ _ _ _ (DTu xs) (e1.trans e2) c2 (Rp.tup (SqT.of upd_same) (RpAll.mono e2.ss _ _ (DensOk.rpAll o1))) hp
/-- a written list: owned -/
theorem ev_list (h : Ea c es ρ C fun ds C1 => ds.length ≤ 1000 ∧ P (.own C1.length) (C1 ++ [.lst ds])) : Ev c (.List es pos) ρ C P := by
  intro X hX S ps σ H hc he Q kk
  refine EE.of (pe_lst EAs.pa) ?_
  refine h X hX S ps σ H hc he _ fun S1 ps1 H1 C1 vs ds e1 c1 o1 ⟨hl, hp⟩ => ?_
  refine ⟨?_, fun p hpn => ?_⟩
  · rw [Paired.len o1]
    exact Nat.le_of_lt (small1000 hl)
  · obtain ⟨c2, e2⟩ := c1.owned (x := .lst ds) (o := .lst vs) hpn ⟨vs, upd_same, o1⟩
    exact kk _ _ _ _ _ (.own C1.length) (e1.trans e2) c2 ⟨p, by rw [← c1.len]; simp, rfl⟩ hp
end
end DL
/-! DL, third part: targets, statements, loops, comprehensions, calls -/
namespace DL
open PySem PySem.Spec PyProof.Rows L2
/-! ### slots wiped -/
theorem wipe_get {σ : L2.St} : ∀ {vs : List Nat} {j : Nat}, (L2.wipe σ vs)[j]? = if j ∈ vs then σ[j]?.map (fun _ => Option.none) else σ[j]?
  | [], j => by simp [L2.wipe]
  | v :: vs, j => by
    unfold L2.wipe
    rw [List.getElem?_set]
    have ih := @wipe_get σ vs j
    by_cases h : v = j
    · subst h
      simp only [List.mem_cons, true_or, if_true, L2.wipe_length]
      by_cases hl : v < σ.length
      · simp [hl]
      · simp [hl]
    · have h' : j ≠ v := fun z => h z.symm
      simp only [h, if_false, ih, List.mem_cons, h', false_or]
theorem wipe_set {σ : L2.St} {vs : List Nat} {i : Nat} {x : Option V} (h : i ∈ vs) : L2.wipe (σ.set i x) vs = L2.wipe σ vs := by
  apply List.ext_getElem?
  intro j
  rw [wipe_get, wipe_get]
  by_cases hj : j ∈ vs
  · simp only [hj, if_true, List.getElem?_set]
    by_cases hij : i = j
    · subst hij
      by_cases hl : i < σ.length
      · simp [hl]
      · simp [hl]
    · simp [hij]
  · have hij : i ≠ j := fun z => hj (z ▸ h)
    simp only [hj, if_false, List.getElem?_set, hij]
theorem wipe_wipe {σ : L2.St} {vs : List Nat} : L2.wipe (L2.wipe σ vs) vs = L2.wipe σ vs := by
  apply List.ext_getElem?
  intro j
  rw [wipe_get, wipe_get]
  by_cases hj : j ∈ vs
  · simp only [hj, if_true]
    cases σ[j]? <;> rfl
  · simp only [hj, if_false]
section
variable {c : Cfg} {ρ : DEnv} {C : List Cont} {a b e x y tg iter : Expr} {es ifs : List Expr} {st : Stmt} {sts body : List Stmt} {pos : Pos} {D : DEnds}
/-! ### targets -/
/-- a target gets a value; only slots of vs change -/
def Gv (c : Cfg) (vs : List Nat) (tg : Expr) (d : Den) (ρ : DEnv) (C : List Cont) (P : DEnv → List Cont → Prop) : Prop :=
  ∀ X, XOk c X → ∀ (S : Hp) (ps : List Addr) (σ : L2.St) (H : Hp) (v : V), Core c.g.K S ps C H → EnvOk c.g.K S ps σ ρ → DenOk c.g.K S ps v d → ∀ Q : L2.St → Hp → Prop,
    PostE c.g.K S ps H P (fun σ' H' => L2.wipe σ' vs = L2.wipe σ vs → Q σ' H') → EG X tg v σ H Q
def Gvs (c : Cfg) (ws : List Nat) (tgs : List Expr) (ds : List Den) (ρ : DEnv) (C : List Cont) (P : DEnv → List Cont → Prop) : Prop :=
  ∀ X, XOk c X → ∀ (S : Hp) (ps : List Addr) (σ : L2.St) (H : Hp) (vs : List V), Core c.g.K S ps C H → EnvOk c.g.K S ps σ ρ → DensOk c.g.K S ps vs ds → ∀ Q : L2.St → Hp → Prop,
    PostE c.g.K S ps H P (fun σ' H' => L2.wipe σ' ws = L2.wipe σ ws → Q σ' H') → EGs X tgs vs σ H Q
variable {PE' : DEnv → List Cont → Prop} {vs : List Nat}
theorem gv_name {x : Str} (i : Nat) {d : Den} (hi : i ∈ vs) (hN : c.N[i]? = some x) (hx : locB c.sc c.fnm x = true) (h : PE' (ρ.set i (some d)) C) : Gv c vs (.Name x pos) d ρ C PE' := by
  intro X hX S ps σ H v hc he hd Q k
  obtain ⟨h1, h2⟩ := loc_b hx
  refine EG.of (pg_name (i := i) hX.nd (by rw [hX.N]; exact hN) (by rw [hX.sc]; exact h1) (by rw [hX.sc, hX.fn]; exact h2)) ?_
  exact k S ps H C _ _ .refl hc (he.set hd) h (wipe_set hi)
theorem gvs_nil (h : PE' ρ C) : Gvs c vs [] [] ρ C PE' := fun X hX S ps σ H us hc he hd Q k => EGs.of pgs_nil ⟨by cases hd; rfl, k S ps H C σ ρ .refl hc he h rfl⟩
theorem gvs_cons {d : Den} {ds : List Den} {t : Expr} {ts : List Expr} (hs : ∀ env, (assignEach (t :: ts) env).map (·.2) = assign t env :: (assignEach ts env).map (·.2)) (h : Gv c vs t d ρ C fun ρ1 C1 => Gvs c vs ts ds ρ1 C1 PE') : Gvs c vs (t :: ts) (d :: ds) ρ C PE' := by
  intro X hX S ps σ H us hc he hd Q k
  cases hd with
  | cons r rr =>
    refine EGs.of (pgs_cons EG.pg EGs.pgs (hs X.env)) ⟨_, _, rfl, ?_⟩
    refine h X hX S ps σ H _ hc he r _ fun S1 ps1 H1 C1 σ1 ρ1 e1 c1 en1 h1 w1 => ?_
    exact h1 X hX S1 ps1 σ1 H1 _ c1 en1 (e1.dens rr) _ fun S2 ps2 H2 C2 σ2 ρ2 e2 c2 en2 h2 w2 => k S2 ps2 H2 C2 σ2 ρ2 (e1.trans e2) c2 en2 h2 (w2.trans w1)
theorem gv_tup {ds : List PyData} {k : Nat} {ts : List Expr} (hn : ∀ env, (assignEach ts env).length = ts.length) (hst : ∀ env, (assignEach ts env).findIdx? (·.1) = none) (hl : ds.length = ts.length) (h : Gvs c vs ts (ds.map .dat) ρ C PE') : Gv c vs (.Tuple ts k pos) (DTu ds) ρ C PE' := by
  intro X hX S ps σ H v hc he hd Q kk
  have hd : Rp c.g.K S v (.tuple ds) := hd
  cases hd with
  | @tup a us _ h1 h2 =>
    refine EG.of (pg_tup (n := ts.length) hX.calm EGs.pgs (hn X.env) (hst X.env)) ⟨a, us, rfl, ?_, ?_, ?_⟩
    · rw [hX.K]; exact same_seqT hc.sub h1
    · have := Paired.len (RpAll.dens (ps := ps) h2)
      rw [this, List.length_map]
      exact hl
    · exact h X hX S ps σ H _ hc he h2.dens Q kk
/-- xs[i] = v, xs owned -/
theorem gv_sub {d : Den} {o i : Expr} (ha : ∀ (env : Env) v, assign (.Subscript o i pos) env v = (do
      let ov ← holding [v] (eval o env)
      let iv ← holding [v, ov] (eval i env)
      standAt pos
      holding [v, ov, iv] (setItem ov iv v)
      release [v, ov, iv] []))
    (h : Ev c o ρ C fun d1 C1 => Ev c i ρ C1 fun d2 C2 => ∃ (k : Nat) (xs : List Den) (n : Int) (j : Nat), d1 = .own k ∧ d2 = DI n ∧ C2[k]? = some (.lst xs) ∧ ixN xs.length n = some j ∧ PE' ρ (C2.set k (.lst (xs.set j d)))) : Gv c vs (.Subscript o i pos) d ρ C PE' := by
  intro X hX S ps σ H v hc he hd Q k
  refine EG.of (pg_sub EE.pe EE.pe set_list (ha X.env)) ?_
  refine h X hX S ps σ H hc he _ fun S1 ps1 H1 C1 v1 d1 e1 c1 o1 h1 => ?_
  refine h1 X hX S1 ps1 σ H1 c1 (he.ext e1) _ fun S2 ps2 H2 C2 v2 d2 e2 c2 o2 h2 => ?_
  obtain ⟨kk, xs, n, j, rfl, rfl, hC, hj, hp⟩ := h2
  obtain ⟨p, hp1, rfl⟩ := e2.den o1
  cases o2
  obtain ⟨ws, hw1, hw2⟩ := c2.cont kk p _ hp1 hC
  have hlen := Paired.len hw2
  refine ⟨p, ws, n, j, rfl, rfl, hw1, by rw [hlen]; exact hj, ?_⟩
  obtain ⟨c3, e3⟩ := c2.wrote (o := .lst (ws.set j v)) (y := .lst (xs.set j d)) hp1 hC (fun z => nomatch z) ⟨_, upd_same, Paired.set (e2.den (e1.den hd)) j hw2⟩
  exact k _ _ _ _ _ _ ((e1.trans e2).trans e3) c3 (((he.ext e1).ext e2).ext e3) hp rfl
/-! ### statements -/
theorem ss_nil (h : D.nx ρ C) : Ss c [] ρ C D := fun X hX S ps σ H hc he E k => ESs.of pss_nil (k.nx S ps H C σ ρ .refl hc he h)
theorem ss_cons (h : S1 c st ρ C { nx := fun ρ1 C1 => Ss c sts ρ1 C1 D, rt := D.rt, bk := D.bk, ct := D.ct }) : Ss c (st :: sts) ρ C D := by
  intro X hX S ps σ H hc he E k
  refine ESs.of (pss_cons ES.ps ESs.pss) ?_
  refine h X hX S ps σ H hc he _ ⟨fun S1 ps1 H1 C1 σ1 ρ1 e1 c1 en1 h1 => ?_, k.rt, k.bk, k.ct⟩
  exact h1 X hX S1 ps1 σ1 H1 c1 en1 E (k.ext e1)
theorem ss_one (h : S1 c st ρ C D) : Ss c [st] ρ C D := fun X hX S ps σ H hc he E k => ESs.of (pss_one ES.ps) (h X hX S ps σ H hc he E k)
theorem Ss.mono {D' : DEnds} (h : Ss c sts ρ C D') (hn : ∀ ρ C, D'.nx ρ C → D.nx ρ C) (hr : ∀ d C, D'.rt d C → D.rt d C) (hb : ∀ ρ C, D'.bk ρ C → D.bk ρ C) (ht : ∀ ρ C, D'.ct ρ C → D.ct ρ C) : Ss c sts ρ C D := fun X hX S ps σ H hc he E k =>
  h X hX S ps σ H hc he E ⟨fun a1 a2 a3 a4 a5 a6 a7 a8 a9 p => k.nx a1 a2 a3 a4 a5 a6 a7 a8 a9 (hn _ _ p), fun a1 a2 a3 a4 a5 a6 a7 a8 a9 p => k.rt a1 a2 a3 a4 a5 a6 a7 a8 a9 (hr _ _ p), fun a1 a2 a3 a4 a5 a6 a7 a8 a9 p => k.bk a1 a2 a3 a4 a5 a6 a7 a8 a9 (hb _ _ p), fun a1 a2 a3 a4 a5 a6 a7 a8 a9 p => k.ct a1 a2 a3 a4 a5 a6 a7 a8 a9 (ht _ _ p)⟩
/-- less of the slots is told -/
theorem Ss.less {ρ' : DEnv} (l : Less ρ' ρ) (h : Ss c sts ρ' C D) : Ss c sts ρ C D := fun X hX S ps σ H hc he E k => h X hX S ps σ H hc (he.less l) E k
/-- not a comprehension -/
def notComp : Expr → Bool
  | .ListComp .. => false
  | .SetComp .. => false
  | .DictComp .. => false
  | _ => true
theorem swaps_not {t : Option Expr} {l : Nat} {env : Env} (h : notComp e = true) : swapsWith e t l env = pure false := by
  cases e <;> first | rfl | cases h
theorem s1_set {x : Str} {pos' : Pos} (i : Nat) (hN : c.N[i]? = some x) (hx : locB c.sc c.fnm x = true) (hn : notComp e = true) (h : Ev c e ρ C fun d C1 => D.nx (ρ.set i (some d)) C1) : S1 c (.Assign [.Name x pos'] e pos) ρ C D := by
  intro X hX S ps σ H hc he E k
  obtain ⟨h1, h2⟩ := loc_b hx
  refine ES.of (ps_set (i := i) hX.nd (by rw [hX.N]; exact hN) (by rw [hX.sc]; exact h1) EE.pe (swaps_not hn) (by rw [hX.sc, hX.fn]; exact h2)) ?_
  exact h X hX S ps σ H hc he _ fun S1 ps1 H1 C1 v d e1 c1 o1 h1 => k.nx S1 ps1 H1 C1 _ _ e1 c1 ((he.ext e1).set o1) h1
theorem s1_asg (hs : ∀ env, swapsWithSole [tg] e pos.line env = pure false) (hw : ∀ env : Env, env.scope = c.sc → swappedStores [tg] e env = pure none) (ha : ∀ env, (assignEach [tg] env).map (·.2) = [assign tg env])
    (h : Ev c e ρ C fun d C1 => Gv c vs tg d ρ C1 D.nx) : S1 c (.Assign [tg] e pos) ρ C D := by
  intro X hX S ps σ H hc he E k
  refine ES.of (ps_asg EE.pe EG.pg (hs X.env) (hw X.env hX.sc) (ha X.env)) ?_
  refine h X hX S ps σ H hc he _ fun S1 ps1 H1 C1 v d e1 c1 o1 h1 => ?_
  exact h1 X hX S1 ps1 σ H1 v c1 (he.ext e1) o1 _ fun S2 ps2 H2 C2 σ2 ρ2 e2 c2 en2 h2 _ => k.nx S2 ps2 H2 C2 σ2 ρ2 (e1.trans e2) c2 en2 h2
/-- a, b = e1, e2 -/
theorem s1_par {x y : Str} {px py pt : Pos} {kt k2 : Nat} {pt2 : Pos} (i j : Nat) (hi : c.N[i]? = some x) (hj : c.N[j]? = some y) (hij : i ≠ j) (hx : c.sc.names.lookup x = some .local) (hy : c.sc.names.lookup y = some .local)
    (hw : ∀ env : Env, env.scope = c.sc → swappedStores [.Tuple [.Name x px, .Name y py] kt pt] (.Tuple [a, b] k2 pt2) env = pure (some [x, y]))
    (h : Ea c [a, b] ρ C fun ds C1 => ∃ d1 d2, ds = [d1, d2] ∧ D.nx ((ρ.set i (some d1)).set j (some d2)) C1) : S1 c (.Assign [.Tuple [.Name x px, .Name y py] kt pt] (.Tuple [a, b] k2 pt2) pos) ρ C D := by
  intro X hX S ps σ H hc he E k
  refine ES.of (ps_par (i := i) (j := j) hX.calm hX.nd (by rw [hX.N]; exact hi) (by rw [hX.N]; exact hj) hij (by rw [hX.sc]; exact hx) (by rw [hX.sc]; exact hy) EAs.pa (hw X.env hX.sc) (by rfl)) ?_
  refine h X hX S ps σ H hc he _ fun S1 ps1 H1 C1 vs ds e1 c1 o1 ⟨d1, d2, hd, h1⟩ => ?_
  subst hd
  cases o1 with
  | cons r1 rr =>
    cases rr with
    | cons r2 rr =>
      cases rr
      exact ⟨_, _, rfl, k.nx S1 ps1 H1 C1 _ _ e1 c1 (((he.ext e1).set r1).set r2) h1⟩
/-- a, b, c = e1, e2, e3 -/
theorem s1_par3 {x y z : Str} {e3 : Expr} {px py pz pt : Pos} {kt k2 : Nat} {pt2 : Pos} (i j l : Nat) (hi : c.N[i]? = some x) (hj : c.N[j]? = some y) (hl : c.N[l]? = some z) (hij : i ≠ j) (hil : i ≠ l) (hjl : j ≠ l) (hx : c.sc.names.lookup x = some .local) (hy : c.sc.names.lookup y = some .local) (hz : c.sc.names.lookup z = some .local)
    (hw : ∀ env : Env, env.scope = c.sc → swappedStores [.Tuple [.Name x px, .Name y py, .Name z pz] kt pt] (.Tuple [a, b, e3] k2 pt2) env = pure (some [x, y, z]))
    (h : Ea c [a, b, e3] ρ C fun ds C1 => ∃ d1 d2 d3, ds = [d1, d2, d3] ∧ D.nx (((ρ.set i (some d1)).set j (some d2)).set l (some d3)) C1) : S1 c (.Assign [.Tuple [.Name x px, .Name y py, .Name z pz] kt pt] (.Tuple [a, b, e3] k2 pt2) pos) ρ C D := by
  intro X hX S ps σ H hc he E k
  refine ES.of (ps_par3 (i := i) (j := j) (l := l) hX.calm hX.nd (by rw [hX.N]; exact hi) (by rw [hX.N]; exact hj) (by rw [hX.N]; exact hl) hij hil hjl (by rw [hX.sc]; exact hx) (by rw [hX.sc]; exact hy) (by rw [hX.sc]; exact hz) EAs.pa (hw X.env hX.sc) (by rfl)) ?_
  refine h X hX S ps σ H hc he _ fun S1 ps1 H1 C1 vs ds e1 c1 o1 ⟨d1, d2, d3, hd, h1⟩ => ?_
  subst hd
  cases o1 with
  | cons r1 rr =>
    cases rr with
    | cons r2 rr =>
      cases rr with
      | cons r3 rr =>
        cases rr
        exact ⟨_, _, _, rfl, k.nx S1 ps1 H1 C1 _ _ e1 c1 ((((he.ext e1).set r1).set r2).set r3) h1⟩
theorem s1_aug {x : Str} {op : Operator} {pos' : Pos} (i : Nat) {d0 : Den} (hN : c.N[i]? = some x) (hx : locB c.sc c.fnm x = true) (h0 : ρ[i]? = some (some d0)) (h : Ev c e ρ C fun d C1 => Op c (.i op) [d0, d] C1 fun d2 C2 => D.nx (ρ.set i (some d2)) C2) : S1 c (.AugAssign (.Name x pos') op e pos) ρ C D := by
  intro X hX S ps σ H hc he E k
  obtain ⟨h1, h2⟩ := loc_b hx
  obtain ⟨v0, g1, g2⟩ := he.get i d0 h0
  refine ES.of (ps_aug (i := i) (ti := fun x y H Q => ∃ t, PIp X op t ∧ t x y H Q) hX.nd (by rw [hX.N]; exact hN) (by rw [hX.sc]; exact h1) EE.pe (fun pins s σ H x y v u Q I r1 r2 ⟨_, hh, q⟩ => hh pins s σ H x y v u Q I r1 r2 q) (by rw [hX.sc, hX.fn]; exact h2)) ⟨v0, g1, ?_⟩
  refine h X hX S ps σ H hc he _ fun S1 ps1 H1 C1 v d e1 c1 o1 h1 => ?_
  obtain ⟨x, y, t, ee, q⟩ := h1.run X hX S1 ps1 H1 [v0, v] c1 (.cons (e1.den g2) (.cons o1 .nil)) (fun z H2 => E.nx (σ.set i (some z)) H2) fun S2 ps2 H2 C2 v2 d2 e2 c2 o2 h2 => k.nx S2 ps2 H2 C2 _ _ (e1.trans e2) c2 (((he.ext e1).ext e2).set o2) h2
  cases ee
  exact ⟨t, q⟩
/-- an item of a list, at a place that is not negative, by values -/
def gtL : V → V → Hp → VK → Prop := fun o i H Q => ∃ p xs k v, o = .ref p ∧ i = .int k ∧ H p = some (.lst xs) ∧ atI xs k = some v ∧ Q v H
theorem get_list {X : Cx} : PGet X gtL := by
  intro pins s σ H o i ov iv Q I ro ri h
  obtain ⟨p, xs, k, z, rfl, rfl, hq, he, q⟩ := h
  cases ro
  obtain ⟨t, rfl⟩ := ri
  obtain ⟨its, r, pl, hz⟩ := I.list (SqL.of hq)
  obtain ⟨j, h1, h2, h3, h4, h5⟩ := atI_get he
  obtain ⟨w, ew, rw'⟩ := r.get h2
  have hl := r.length
  have hn := line63
  have fin : EP X pins σ Q w s := ⟨z, H, I, rw', q⟩
  by_cases h0 : 0 ≤ k
  · have hj : k.toNat = j := by
      rw [seqIndex_of h0 h5] at h1
      exact Option.some.inj h1
    exact wpAny_getItem_list pl.isList h0 (by omega) (by rw [hj]; simpa using ew) fin
  · have hj : (k + (its.toArray.size : Int)).toNat = j := by
      rw [seqIndex_neg (by omega) h4] at h1
      rw [List.size_toArray, ← hl]
      exact Option.some.inj h1
    exact wpAny_getItem_list_neg pl.isList (by omega) (by rw [List.size_toArray] <;> omega) (by omega) (by rw [hj]; simpa using ew) fin
/-- xs[i] op= e, xs owned -/
theorem s1_augS {o i : Expr} {op : Operator} {tpos : Pos} (ha : ∀ ov iv new, augStore i ov iv new = (do holding [new, ov, iv] (setItem ov iv new); release [new, ov, iv] []; pure .next))
    (h : Ev c o ρ C fun d1 C1 => Ev c i ρ C1 fun d2 C2 => ∃ (k : Nat) (xs : List Den) (n : Int) (j : Nat) (d0 : Den), d1 = .own k ∧ d2 = DI n ∧ C2[k]? = some (.lst xs) ∧ ixN xs.length n = some j ∧ xs[j]? = some d0 ∧
      Ev c e ρ C2 fun d3 C3 => C3[k]? = some (.lst xs) ∧ Op c (.i op) [d0, d3] C3 fun d4 C4 => C4[k]? = some (.lst xs) ∧ D.nx ρ (C4.set k (.lst (xs.set j d4)))) : S1 c (.AugAssign (.Subscript o i tpos) op e pos) ρ C D := by
  intro X hX S ps σ H hc he E k
  refine ES.of (ps_augS (tip := fun x y H Q => ∃ t, PIp X op t ∧ t x y H Q) EE.pe EE.pe get_list EE.pe (fun pins s σ H x y v u Q I r1 r2 ⟨_, hh, q⟩ => hh pins s σ H x y v u Q I r1 r2 q) set_list ha) ?_
  refine h X hX S ps σ H hc he _ fun S1 ps1 H1 C1 v1 d1 e1 c1 o1 h1 => ?_
  refine h1 X hX S1 ps1 σ H1 c1 (he.ext e1) _ fun S2 ps2 H2 C2 v2 d2 e2 c2 o2 h2 => ?_
  obtain ⟨kk, xs, n, j, d0, rfl, rfl, hC, hj, hd0, hv⟩ := h2
  obtain ⟨p, hp1, rfl⟩ := e2.den o1
  cases o2
  obtain ⟨ws, hw1, hw2⟩ := c2.cont kk p _ hp1 hC
  have hlen := Paired.len hw2
  obtain ⟨w0, hw0, hr0⟩ := Paired.get hw2 hd0
  have hat : atI ws n = some w0 := by
    unfold atI
    rw [hlen, hj]
    exact hw0
  refine ⟨p, ws, n, w0, rfl, rfl, hw1, hat, ?_⟩
  refine hv X hX S2 ps2 σ H2 c2 ((he.ext e1).ext e2) _ fun S3 ps3 H3 C3 v3 d3 e3 c3 o3 ⟨hC3, h3⟩ => ?_
  obtain ⟨x, y, t, ee, ht, q⟩ := h3.run X hX S3 ps3 H3 [w0, v3] c3 (.cons (e3.den hr0) (.cons o3 .nil)) (fun z H5 => rSetL (.ref p) (.int n) z H5 fun H6 => E.nx σ H6) fun S4 ps4 H4 C4 v4 d4 e4 c4 o4 ⟨hC4, h4⟩ => by
    have hp4 : ps4[kk]? = some p := by
      obtain ⟨q3, z3, _⟩ := e3.pre
      obtain ⟨q4, z4, _⟩ := e4.pre
      have hl := (List.getElem?_eq_some_iff.mp hp1).1
      rw [z4, z3, List.append_assoc, List.getElem?_append_left hl]
      exact hp1
    obtain ⟨us, hu1, hu2⟩ := c4.cont kk p _ hp4 hC4
    have hlen4 := Paired.len hu2
    refine ⟨p, us, n, j, rfl, rfl, hu1, by rw [hlen4]; exact hj, ?_⟩
    obtain ⟨c5, e5⟩ := c4.wrote (o := .lst (us.set j v4)) (y := .lst (xs.set j d4)) hp4 hC4 (fun z => nomatch z) ⟨_, upd_same, Paired.set o4 j hu2⟩
    exact k.nx _ _ _ _ _ _ ((((e1.trans e2).trans e3).trans e4).trans e5) c5 (((((he.ext e1).ext e2).ext e3).ext e4).ext e5) h4
  cases ee
  exact ⟨t, ht, q⟩
theorem s1_expr (hn : notComp e = true) (h : Ev c e ρ C fun _ C1 => D.nx ρ C1) : S1 c (.Expr e pos) ρ C D := fun X hX S ps σ H hc he E k =>
  ES.of (ps_expr EE.pe (swaps_not hn)) (h X hX S ps σ H hc he _ fun S1 ps1 H1 C1 v d e1 c1 o1 h1 => k.nx S1 ps1 H1 C1 σ ρ e1 c1 (he.ext e1) h1)
theorem s1_ret (h : Ev c e ρ C D.rt) : S1 c (.Return (some e) pos) ρ C D := fun X hX S ps σ H hc he E k =>
  ES.of (ps_ret EE.pe) (h X hX S ps σ H hc he _ k.rt)
theorem s1_retN (h : D.rt DN C) : S1 c (.Return none pos) ρ C D := fun X hX S ps σ H hc he E k =>
  ES.of ps_retN (k.rt S ps H C .non DN .refl hc Rp.non h)
theorem s1_if {t : Expr} {thn els : List Stmt} (h : Et c t ρ C fun k C1 => (k = true → Ss c thn ρ C1 D) ∧ (k = false → Ss c els ρ C1 D)) : S1 c (.If t thn els pos) ρ C D := fun X hX S ps σ H hc he E k =>
  ES.of (ps_if EB.pt ESs.pss ESs.pss) (h X hX S ps σ H hc he _ fun S1 ps1 H1 C1 z e1 c1 h1 => by
    cases z with
    | true =>
      rw [if_pos rfl]
      exact h1.1 rfl X hX S1 ps1 σ H1 c1 (he.ext e1) E (k.ext e1)
    | false =>
      rw [if_neg Bool.false_ne_true]
      exact h1.2 rfl X hX S1 ps1 σ H1 c1 (he.ext e1) E (k.ext e1))
theorem s1_break (h : D.bk ρ C) : S1 c (.Break pos) ρ C D := fun X hX S ps σ H hc he E k => ES.of ps_break (k.bk S ps H C σ ρ .refl hc he h)
theorem s1_cont (h : D.ct ρ C) : S1 c (.Continue pos) ρ C D := fun X hX S ps σ H hc he E k => ES.of ps_continue (k.ct S ps H C σ ρ .refl hc he h)
theorem s1_pass (h : D.nx ρ C) : S1 c (.Pass pos) ρ C D := fun X hX S ps σ H hc he E k => ES.of ps_pass (k.nx S ps H C σ ρ .refl hc he h)
theorem s1_never (h : False) : S1 c st ρ C D := h.elim
/-! ### for -/
theorem s1_for (hs : ∀ env x, foldedSetIterable iter env x = pure x) (h : Ei c tg iter ρ C fun xs G C1 => ∃ Iv : Nat → DEnv → List Cont → Prop, Iv 0 ρ C1 ∧ (∀ i ρ' C', i ≤ xs.length → Iv i ρ' C' → G C') ∧
      (∀ i d ρ' C', xs[i]? = some d → Iv i ρ' C' → Gv c vs tg d ρ' C' fun ρ2 C2 => Ss c body ρ2 C2 { nx := Iv (i + 1), rt := D.rt, bk := D.nx, ct := Iv (i + 1) }) ∧ (∀ ρ' C', Iv xs.length ρ' C' → D.nx ρ' C')) :
    S1 c (.For tg iter body [] pos) ρ C D := by
  intro X hX S ps σ H hc he E k
  refine ES.of (ps_for (by rw [hX.nox]; exact PassesOwn.never) hX.calm EI.pi EG.pg ESs.pss (hs X.env)) ?_
  refine h X hX S ps σ H hc he _ fun S1 ps1 H1 C1 J xs G e1 c1 it ⟨Iv, h0, hG, hst, hd⟩ => ?_
  refine ⟨fun i m σ' H' => m = xs.length - i ∧ i ≤ xs.length ∧ ∃ (S2 : Hp) (ps2 : List Addr) (C2 : List Cont) (ρ2 : DEnv), Ext S1 ps1 H1 S2 ps2 H' ∧ Core c.g.K S2 ps2 C2 H' ∧ EnvOk c.g.K S2 ps2 σ' ρ2 ∧ Iv i ρ2 C2,
    ⟨xs.length, by simp, Nat.zero_le _, S1, ps1, C1, ρ, .refl, c1, he.ext e1, h0⟩, ?_⟩
  rintro i m σ' H' ⟨rfl, hi, S2, ps2, C2, ρ2, e2, c2, en2, inv⟩
  obtain ⟨qs, hqs, _⟩ := e2.pre
  subst hqs
  have g := hG i ρ2 C2 hi inv
  by_cases hlt : i < xs.length
  · refine .inr ⟨it.go S2 qs C2 H' i e2.ss c2 g hlt, fun σ3 H3 => ∃ (S3 : Hp) (ps3 : List Addr) (C3 : List Cont) (ρ3 : DEnv), Ext S1 ps1 H1 S3 ps3 H3 ∧ Core c.g.K S3 ps3 C3 H3 ∧ EnvOk c.g.K S3 ps3 σ3 ρ3 ∧ Iv (i + 1) ρ3 C3,
      fun σ3 H3 n => ⟨xs.length - (i + 1), by omega, rfl, hlt, n⟩, fun x H3 y => ?_⟩
    obtain ⟨S3, d, e3, c3, hd3, o3⟩ := it.yld S2 qs C2 H' i x H3 e2.ss c2 g hlt y
    refine hst i d ρ2 C2 hd3 inv X hX S3 _ σ' H3 x c3 (en2.ext e3) o3 _ fun S4 ps4 H4 C4 σ4 ρ4 e4 c4 en4 hb _ => ?_
    have e14 : Ext S1 ps1 H1 S4 ps4 H4 := (e2.trans e3).trans e4
    refine hb X hX S4 ps4 σ4 H4 c4 en4 _ ⟨fun S5 ps5 H5 C5 σ5 ρ5 e5 c5 en5 h5 => ⟨S5, ps5, C5, ρ5, e14.trans e5, c5, en5, h5⟩, k.rt.ext (e1.trans e14), k.nx.ext (e1.trans e14), fun S5 ps5 H5 C5 σ5 ρ5 e5 c5 en5 h5 => ⟨S5, ps5, C5, ρ5, e14.trans e5, c5, en5, h5⟩⟩
  · have ei : i = xs.length := by omega
    subst ei
    exact .inl ⟨it.stop S2 qs C2 H' e2.ss c2 g, k.nx S2 _ H' C2 σ' ρ2 (e1.trans e2) c2 en2 (hd ρ2 C2 inv)⟩
/-- while: the invariant and a measure of the state -/
theorem s1_while {t : Expr} (Iv : Nat → DEnv → List Cont → Prop) (h0 : ∃ m, Iv m ρ C) (h : ∀ m ρ' C', Iv m ρ' C' → Et c t ρ' C' fun k C1 => (k = true → ∃ N : DEnv → List Cont → Prop, (∀ ρ2 C2, N ρ2 C2 → ∃ m', m' < m ∧ Iv m' ρ2 C2) ∧ Ss c body ρ' C1 { nx := N, rt := D.rt, bk := D.nx, ct := N }) ∧ (k = false → D.nx ρ' C1)) :
    S1 c (.While t body [] pos) ρ C D := by
  intro X hX S ps σ H hc he E k
  refine ES.of (ps_while (by rw [hX.nox]; exact PassesOwn.never) EB.pt ESs.pss) ?_
  obtain ⟨m0, w0⟩ := h0
  refine ⟨fun m σ' H' => ∃ (S2 : Hp) (ps2 : List Addr) (C2 : List Cont) (ρ2 : DEnv), Ext S ps H S2 ps2 H' ∧ Core c.g.K S2 ps2 C2 H' ∧ EnvOk c.g.K S2 ps2 σ' ρ2 ∧ Iv m ρ2 C2, ⟨m0, S, ps, C, ρ, .refl, hc, he, w0⟩, ?_⟩
  rintro m σ' H' ⟨S2, ps2, C2, ρ2, e2, c2, en2, inv⟩
  refine h m ρ2 C2 inv X hX S2 ps2 σ' H' c2 en2 _ fun S3 ps3 H3 C3 z e3 c3 h3 => ?_
  cases z with
  | true =>
    rw [if_pos rfl]
    obtain ⟨N, hN, hb⟩ := h3.1 rfl
    refine ⟨fun σ4 H4 => ∃ (S4 : Hp) (ps4 : List Addr) (C4 : List Cont) (ρ4 : DEnv), Ext S ps H S4 ps4 H4 ∧ Core c.g.K S4 ps4 C4 H4 ∧ EnvOk c.g.K S4 ps4 σ4 ρ4 ∧ N ρ4 C4, fun σ4 H4 ⟨S4, ps4, C4, ρ4, e4, c4, en4, n4⟩ => ?_, ?_⟩
    · obtain ⟨m', hm, w⟩ := hN ρ4 C4 n4
      exact ⟨m', hm, S4, ps4, C4, ρ4, e4, c4, en4, w⟩
    · have e13 := e2.trans e3
      exact hb X hX S3 ps3 σ' H3 c3 (en2.ext e3) _ ⟨fun S5 ps5 H5 C5 σ5 ρ5 e5 c5 en5 h5 => ⟨S5, ps5, C5, ρ5, e13.trans e5, c5, en5, h5⟩, k.rt.ext e13, k.nx.ext e13, fun S5 ps5 H5 C5 σ5 ρ5 e5 c5 en5 h5 => ⟨S5, ps5, C5, ρ5, e13.trans e5, c5, en5, h5⟩⟩
  | false =>
    rw [if_neg Bool.false_ne_true]
    exact k.nx S3 ps3 H3 C3 σ' ρ2 (e2.trans e3) c3 (en2.ext e3) (h3.2 rfl)
end
end DL
/-! DL, walks over lists and tuples alike: enumerate, zip -/
namespace DL
open PySem PySem.Spec PyProof.Rows L2
/-- a list (false) or a tuple (true) -/
def SqX (K : PySem.W.Frag) (b : Bool) (H : Hp) (a : Addr) (xs : List V) : Prop := if b = true then SqT K H a xs else SqL K H a xs
def IsX (b : Bool) (h : Heap) (a : Addr) (its : Array Value) : Prop := if b = true then h.IsTuple a its else h.IsList a its
def ItX (b : Bool) (h : Heap) (it a : Addr) (i : Nat) : Prop := if b = true then h.IsTupleIter it a i else h.IsListIter it a i
def obX (b : Bool) (a : Addr) : Obj := { cls := .type (if b = true then "tuple_iterator" else "list_iterator"), data := .fields #[.ref a, .int 0 0] }
theorem beginsX (b : Bool) (a : Addr) (its : Array Value) : Begins (.ref a) (obX b a) (fun h => IsX b h a its) := by
  cases b with
  | true => exact begins_tuple a its
  | false => exact begins_list a its
theorem drawsX {prog : Program} {w : World} {A : Around} (hh : A.handled = none) (b : Bool) (it a : Addr) (hne : a ≠ it) (its : Array Value) :
    Draws prog w A it [it, a] its.size (fun i v => its[i]? = some v) (fun i h => ItX b h it a i ∧ IsX b h a its) := by
  cases b with
  | true => exact Draws.tuple hh it a hne its
  | false => exact Draws.list hh it a hne its
theorem ItX.at {b : Bool} {h h' : Heap} {it a : Addr} {i : Nat} (s : ItX b h it a i) (k : ∀ o, h.get? it = some o → h'.get? it = some o) : ItX b h' it a i := by
  cases b with
  | true => exact Heap.IsTupleIter.at (show h.IsTupleIter it a i from s) k
  | false => exact Heap.IsListIter.at (show h.IsListIter it a i from s) k
theorem ItX.obj {b : Bool} {h : Heap} {it a : Addr} {i : Nat} (s : ItX b h it a i) : ∃ o, h.get? it = some o ∧ ∀ v, o.data ≠ .cell v := by
  cases b with
  | true =>
    obtain ⟨o, e, _, d⟩ : h.IsTupleIter it a i := s
    exact ⟨o, e, fun v z => by rw [d] at z; cases z⟩
  | false =>
    obtain ⟨o, e, _, d⟩ : h.IsListIter it a i := s
    exact ⟨o, e, fun v z => by rw [d] at z; cases z⟩
theorem ItX.new {b : Bool} {h : Heap} {it a : Addr} (e : h.get? it = some (obX b a)) : ItX b h it a 0 := by
  cases b with
  | true => exact ⟨_, e, rfl, rfl⟩
  | false => exact ⟨_, e, rfl, rfl⟩
section
variable {X : Cx} {pins : List (Addr × Obj)} {σ : L2.St} {H : Hp} {s : Shared} {a : Addr} {xs ys : List V} {b : Bool}
theorem seqX (I : Inv X pins σ H s) (h : SqX X.K b H a xs) : ∃ its : List Value, Vals xs its ∧ IsX b s.heap a its.toArray := by
  cases b with
  | true =>
    obtain ⟨its, r, p, _⟩ := I.tuple (show SqT X.K H a xs from h)
    exact ⟨its, r, p⟩
  | false =>
    obtain ⟨its, r, p, _⟩ := I.list (show SqL X.K H a xs from h)
    exact ⟨its, r, p.isList⟩
theorem seqX_inj (I : Inv X pins σ H s) (h : SqX X.K b H a xs) (h' : SqX X.K b H a ys) : xs = ys := by
  cases b with
  | true => exact I.tuple_inj (show SqT X.K H a xs from h) h'
  | false => exact I.list_inj (show SqL X.K H a xs from h) h'
theorem IsX.lt {h : Heap} {its : Array Value} (p : IsX b h a its) : a < h.objs.size := by
  cases b with
  | true =>
    obtain ⟨o, e, _⟩ : h.IsTuple a its := p
    exact Heap.lt_size e
  | false =>
    obtain ⟨o, e, _⟩ : h.IsList a its := p
    exact Heap.lt_size e
end
/-! ### enumerate -/
theorem enum1_new {v : Value} {o : Obj} {H : Heap → Prop} (B : Begins v o H) :
    Meets (Builtin.«enumerate.__new__» ⟨[.type "enumerate", v], []⟩) (fun _ R s => H s.heap ∧
      R (.ok (.ret (.ref (s.heap.push o).objs.size))) { s with heap := (s.heap.push o).push { cls := .type "enumerate", data := .fields #[.none, .bool false, .ref s.heap.objs.size, rawInt 0, .none, .none] } }) :=
  .of_wp fun prog w A R s h => by
    obtain ⟨hp, g, d, tk, os⟩ := s
    obtain ⟨h1, h⟩ := h
    have hsub := sub_enumerate
    have go : ∀ {A' : Around} {E : Value → Shared → Prop} {Q : Value → Shared → Prop}, Q (.ref hp.objs.size) ⟨hp.push o, g, d, tk, os⟩ → wpAny (model prog w) A' (pyIter v) Q E ⟨hp, g, d, tk, os⟩ :=
      fun q => B.iter prog w _ _ ⟨hp, g, d, tk, os⟩ _ h1 q
    wp_walk using go
    refine wpAny_stack_any fun st => wpAny_pure ?_
    split
    · rename_i c _ _ _ _ _
      cases (c == Value.type "enumerate") <;> (wp_walk using go; exact ⟨_, rfl, h⟩)
    · wp_walk using go
      exact ⟨_, rfl, h⟩
theorem enum1_call {prog : Program} {w : World} {A : Around} {E : Value → Shared → Prop} {s : Shared} {v : Value} {o : Obj} {H : Heap → Prop} {Q : Value → Shared → Prop} (B : Begins v o H) (h1 : H s.heap)
    (h : ∀ h', IsEnum h' (s.heap.objs.size + 1) s.heap.objs.size 0 .none → h'.get? s.heap.objs.size = some o → (∀ b u, s.heap.get? b = some u → h'.get? b = some u) → Q (.ref (s.heap.objs.size + 1)) { s with heap := h' }) :
    wpAny (model prog w) A (call (.type "enumerate") [v]) Q E s := by
  refine callType_new F.called_enumerate (by decide) (F.typeCall_enumerate_1 _) (F.newCall_enumerate_1 _) (fun obj => F.args_object_init_2 obj _) F.entry_enumerate_new (enum1_new B) ⟨h1, ?_⟩
  have sz : (s.heap.push o).objs.size = s.heap.objs.size + 1 := Heap.size_push ..
  rw [sz]
  have he := Heap.get?_push_size (s.heap.push o) (o := { cls := .type "enumerate", data := .fields #[.none, .bool false, .ref s.heap.objs.size, rawInt 0, .none, .none] }) rfl
  rw [sz] at he
  exact ⟨⟨_, he, rfl⟩, h _ he (Heap.get?_push_of_some _ (Heap.get?_push_size _ B.free)) fun b u x => Heap.get?_push_of_some _ (Heap.get?_push_of_some _ x)⟩
/-- the list or tuple at a as it stands, each item in a new pair with its place -/
def IteX (K : PySem.W.Frag) (b : Bool) (a : Addr) : It :=
  ⟨fun i H => ∃ (xs : List V) (x : V), SqX K b H a xs ∧ xs[i]? = some x, fun i H v H' => ∃ T x, v = .ref T ∧ H T = none ∧ H' = upd H T (.tup [.int (i : Nat), x]) ∧ ∀ xs, SqX K b H a xs → xs[i]? = some x, fun i H => ∃ xs : List V, SqX K b H a xs ∧ xs.length = i⟩
theorem turn_enumX {P : Program} {w : World} {K : PySem.W.Frag} {elts : List Expr} {kk : Nat} {tpos : Pos} (b : Bool) (a e it : Addr) (hne : e ≠ it) (hea : e ≠ a) (hai : a ≠ it) :
    Turn P w K (.Tuple elts kk tpos) (IteX K b a) [e, it] e (fun i h => (∃ old, IsEnum h e it ((i : Nat) : Int) old) ∧ ItX b h it a i) where
  mem := by simp
  obj := fun i h st c hc => by
    obtain ⟨⟨old, he⟩, hi⟩ := st
    rcases (show c = e ∨ c = it by simpa using hc) with z | z
    · rw [z]; exact ⟨_, he, fun v q => nomatch q⟩
    · rw [z]; exact hi.obj
  keep := fun i h h' ⟨⟨old, he⟩, hi⟩ k => ⟨⟨old, k e (by simp) _ he⟩, hi.at fun o q => k it (by simp) o q⟩
  item := by
    intro X hP hw hK hc i pins s σ H E I hf st hg
    subst hP hw hK
    obtain ⟨⟨old, he⟩, hit⟩ := st
    obtain ⟨xs, x, hq, hx⟩ := hg
    obtain ⟨its, rv, p⟩ := seqX I hq
    have hel : e < s.heap.objs.size := Heap.lt_size he
    have hil : it < s.heap.objs.size := by
      obtain ⟨_, q, _⟩ := hit.obj
      exact Heap.lt_size q
    have hlt : i < its.toArray.size := by
      have h1 := (List.getElem?_eq_some_iff.mp hx).1
      have h2 := rv.length
      simp
      omega
    refine wpAny_pyNext_enum_itemD (drawsX (A := X.A.in1) (show X.A.in1.handled = none from I.ok.hd hc) b it a hai its.toArray) he ⟨hit, p⟩ hlt hne (by simp [hne, hea]) fun u h' tk hu ho hs' hT hsz hk => ?_
    have ru : RelV x u := by
      obtain ⟨u', e1, r1⟩ := rv.get hx
      have e2 : its[i]? = some u := by simpa using hu
      rw [e1] at e2
      cases e2
      exact r1
    refine ⟨_, rfl, wpAny_letOwnedTupleGo_enum (s := { s with heap := h', toks := tk + 1 }) ho fun h'' he' sb => ?_⟩
    have hT2 : h''.get? s.heap.objs.size = some { cls := .type "tuple", data := .seq #[.int i tk, u] } := (sb.2 _ (Nat.ne_of_gt hel)).trans hT
    have new : ObjOk X.prog X.w (upd H s.heap.objs.size (.tup [.int (i : Nat), x])) h'' s.heap.objs.size (.tup [.int (i : Nat), x]) :=
      ⟨by show 2 ≤ sizeLine; decide, [.int i tk, u], .cons ⟨_, rfl⟩ (.cons ru .nil), ⟨_, hT2, rfl, _, rfl⟩⟩
    have I1 : Inv X pins σ (upd H s.heap.objs.size (.tup [.int (i : Nat), x])) { s with heap := h'', toks := tk + 1 } :=
      I.turnedNew (ch := [e, it]) (fun c ob hb q => (sb.2 c (fun z => hb (by simp [z]))).trans (hk c ob (fun z => hb (by simp [z])) (fun z => hb (by simp [z])) q)) hf (Nat.le_refl _) new
    refine ⟨.ref s.heap.objs.size, _, I1, rfl, ⟨_, x, rfl, I.hok.fresh (Nat.le_refl _), rfl, fun ys hy => by rw [seqX_inj I hy hq]; exact hx⟩, ⟨⟨u, he'⟩, hs'.1.at fun o q => (sb.2 it (Ne.symm hne)).trans q⟩, fun c hb => ?_⟩
    have hb' : c < s.heap.objs.size := by
      rcases (show c = e ∨ c = it by simpa using hb) with z | z <;> rw [z] <;> assumption
    rw [upd_ne (Nat.ne_of_lt hb')]
    exact (hf c hb).1
  done := by
    intro X hP hw hK hc i pins s σ H E I hf st hg
    subst hP hw hK
    obtain ⟨⟨old, he⟩, hit⟩ := st
    obtain ⟨xs, hq, hx⟩ := hg
    obtain ⟨its, rv, p⟩ := seqX I hq
    obtain ⟨f0, f1, f2, f3, f4, f5⟩ := hf it (by simp)
    have hl := rv.length
    have hi : i = its.toArray.size := by
      simp
      omega
    refine wpAny_pyNext_enum_endD (drawsX (A := X.A.in1) (show X.A.in1.handled = none from I.ok.hd hc) b it a hai its.toArray) he ⟨by rw [← hi]; exact hit, p⟩ fun h' eb => ⟨rfl, I.turned (t' := s.toks) (fun c o hb q => eb c o hb q) f0 f1 f3 f4 f5⟩
  self := fun A i s Q E ⟨⟨_, he⟩, _⟩ h => wpAny_pyIter_enum he h
def iEnumX (K : PySem.W.Frag) (ta : TA) : TI := fun σ H R => ta σ H fun vs H1 => ∃ a xs b, vs = [.ref a] ∧ SqX K b H1 a xs ∧ R (IteX K b a) H1
theorem pi_enumX {X : Cx} {e : Expr} {ta : TA} {p pos tpos : Pos} {elts : List Expr} {kk : Nat} (hg : Gl X "enumerate") (hm : X.mg "enumerate" = none) (ha : PA X [e] ta) (hs : starEach [e] X.env = [(false, eval e X.env)]) :
    PI X (.Tuple elts kk tpos) (.Call (.Name "enumerate" p) [e] [] pos) (iEnumX X.K ta) := by
  refine ⟨fun pins s σ H R I h => ?_⟩
  refine Call_ (ld_blt I hg hm boot_enumerate (PyProof.Rows.callWith_type1 (thn (ha.run pos pins s σ H _ I h) fun us s1 ⟨vs, H1, I1, r1, q1⟩ => ?_) hs rfl))
  obtain ⟨a, xs, b, ex, hq, q⟩ := q1
  subst ex
  cases r1 with
  | cons r rr =>
    cases rr
    cases r
    obtain ⟨its, rv, p'⟩ := seqX I1 hq
    have la := p'.lt
    refine enum1_call (beginsX b a its.toArray) p' fun h' he hit hk => wpAny_pyIter_enum he ?_
    have I2 : Inv X pins σ H1 { s1 with heap := h' } := I1.kept (t' := s1.toks) hk
    refine ⟨s1.heap.objs.size + 1, [s1.heap.objs.size + 1, s1.heap.objs.size], _, _, H1, rfl, I2, turn_enumX b a _ _ (Nat.succ_ne_self _) (Nat.ne_of_gt (Nat.lt_succ_of_lt la)) (Nat.ne_of_lt la), ⟨⟨.none, he⟩, ItX.new hit⟩, fun c hb => ?_, q⟩
    have hle : s1.heap.objs.size ≤ c := by
      rcases (show c = s1.heap.objs.size + 1 ∨ c = s1.heap.objs.size by simpa using hb) with z | z <;> rw [z]
      · exact Nat.le_succ _
      · exact Nat.le_refl _
    exact I1.fpOk hle (I1.hok.fresh hle)
/-! ### zip -/
def ItzX (K : PySem.W.Frag) (b1 b2 : Bool) (a1 a2 : Addr) : It :=
  ⟨fun i H => ∃ (xs ys : List V) (x y : V), SqX K b1 H a1 xs ∧ SqX K b2 H a2 ys ∧ xs[i]? = some x ∧ ys[i]? = some y,
    fun i H v H' => ∃ T x y, v = .ref T ∧ H T = none ∧ H' = upd H T (.tup [x, y]) ∧ (∀ xs, SqX K b1 H a1 xs → xs[i]? = some x) ∧ ∀ ys, SqX K b2 H a2 ys → ys[i]? = some y,
    fun i H => ∃ xs ys : List V, SqX K b1 H a1 xs ∧ SqX K b2 H a2 ys ∧ i ≤ xs.length ∧ i ≤ ys.length ∧ (i = xs.length ∨ i = ys.length)⟩
theorem turn_zipX {P : Program} {w : World} {K : PySem.W.Frag} {elts : List Expr} {kk : Nat} {tpos : Pos} (b1 b2 : Bool) (N a1 a2 : Addr) (h1 : a1 < N) (h2 : a2 < N) :
    Turn P w K (.Tuple elts kk tpos) (ItzX K b1 b2 a1 a2) [N + 4, N + 2, N + 3, N, N + 1] (N + 4) (fun i h => IsZip h (N + 4) (N + 2) (N + 3) .none ∧ IsTupOf2 h (N + 2) (.ref N) (.ref (N + 1)) ∧ (∃ x y, IsTupOf2 h (N + 3) x y) ∧ ItX b1 h N a1 i ∧ ItX b2 h (N + 1) a2 i) where
  mem := by simp
  obj := fun i h st c hc => by
    obtain ⟨hz, hTI, ⟨x, y, hTO⟩, g1, g2⟩ := st
    rcases (show c = N + 4 ∨ c = N + 2 ∨ c = N + 3 ∨ c = N ∨ c = N + 1 by simpa using hc) with q | q | q | q | q
    · rw [q]; exact ⟨_, hz, fun v q => nomatch q⟩
    · rw [q]; exact ⟨_, hTI, fun v q => nomatch q⟩
    · rw [q]; exact ⟨_, hTO, fun v q => nomatch q⟩
    · rw [q]; exact g1.obj
    · rw [q]; exact g2.obj
  keep := fun i h h' ⟨hz, hTI, ⟨x, y, hTO⟩, g1, g2⟩ k => ⟨k _ (by simp) _ hz, k _ (by simp) _ hTI, ⟨x, y, k _ (by simp) _ hTO⟩, g1.at fun o q => k _ (by simp) o q, g2.at fun o q => k _ (by simp) o q⟩
  item := by
    intro X hP hw hK hc i pins s σ H E I hf st hg
    subst hP hw hK
    obtain ⟨hz, hTI, ⟨x0, y0, hTO⟩, g1, g2⟩ := st
    obtain ⟨xs, ys, x, y, hqx, hqy, hx, hy⟩ := hg
    obtain ⟨its, rv, p⟩ := seqX I hqx
    obtain ⟨its2, rv2, p2⟩ := seqX I hqy
    have hzl : N + 4 < s.heap.objs.size := Heap.lt_size hz
    have lt1 : i < its.toArray.size := by
      have q1 := (List.getElem?_eq_some_iff.mp hx).1
      have q2 := rv.length
      simp
      omega
    have lt2 : i < its2.toArray.size := by
      have q1 := (List.getElem?_eq_some_iff.mp hy).1
      have q2 := rv2.length
      simp
      omega
    have sep : ZipSep2 (N + 4) (N + 2) (N + 3) N (N + 1) [N, a1] [N + 1, a2] := zip_sep2 (by simpa using h1) (by simpa using h2)
    have a1N : a1 ≠ N := Nat.ne_of_lt h1
    have a2N : a2 ≠ N + 1 := Nat.ne_of_lt (Nat.lt_succ_of_lt h2)
    refine wpAny_pyNext_zipD2_item sep (drawsX (A := X.A.in1) (show X.A.in1.handled = none from I.ok.hd hc) b1 N a1 a1N its.toArray) (drawsX (A := X.A.in1) (show X.A.in1.handled = none from I.ok.hd hc) b2 (N + 1) a2 a2N its2.toArray) hz hTI hTO ⟨g1, p⟩ ⟨g2, p2⟩ lt1 lt2 fun u u2 h' tk hu hu2 z' TO' g1' g2' hT hsz hk => ?_
    have ru : RelV x u := by
      obtain ⟨u', e1, r1⟩ := rv.get hx
      have e2 : its[i]? = some u := by simpa using hu
      rw [e1] at e2
      cases e2
      exact r1
    have ru2 : RelV y u2 := by
      obtain ⟨u', e1, r1⟩ := rv2.get hy
      have e2 : its2[i]? = some u2 := by simpa using hu2
      rw [e1] at e2
      cases e2
      exact r1
    refine ⟨_, rfl, wpAny_letOwnedTupleGo_zip (s := { s with heap := h', toks := tk }) z' fun h'' z'' sb => ?_⟩
    have hT2 : h''.get? s.heap.objs.size = some { cls := .type "tuple", data := .seq #[u, u2] } := (sb.2 _ (Nat.ne_of_gt hzl)).trans hT
    have new : ObjOk X.prog X.w (upd H s.heap.objs.size (.tup [x, y])) h'' s.heap.objs.size (.tup [x, y]) :=
      ⟨by show 2 ≤ sizeLine; decide, [u, u2], .cons ru (.cons ru2 .nil), ⟨_, hT2, rfl, _, rfl⟩⟩
    have I1 : Inv X pins σ (upd H s.heap.objs.size (.tup [x, y])) { s with heap := h'', toks := tk } :=
      I.turnedNew (ch := [N + 4, N + 2, N + 3, N, N + 1]) (fun c o hb q => (sb.2 c (fun q' => hb (by simp [q']))).trans (hk c o (fun q' => hb (by simp [q'])) (fun q' => hb (by simp [q'])) (fun q' => hb (by simp [q'])) (fun q' => hb (by simp [q'])) q)) hf (Nat.le_refl _) new
    refine ⟨.ref s.heap.objs.size, _, I1, rfl, ⟨_, x, y, rfl, I.hok.fresh (Nat.le_refl _), rfl, fun l hl => by rw [seqX_inj I hl hqx]; exact hx, fun l hl => by rw [seqX_inj I hl hqy]; exact hy⟩, ⟨z'', ?_, ⟨u, u2, ?_⟩, ?_, ?_⟩, fun c hcm => ?_⟩
    · exact (sb.2 _ sep.TIz).trans (hk _ _ sep.TIz sep.TITO sep.TIi1 sep.TIi2 hTI)
    · exact (sb.2 _ sep.TOz).trans TO'
    · exact g1'.1.at fun o q => (sb.2 _ (Ne.symm sep.zi1)).trans q
    · exact g2'.1.at fun o q => (sb.2 _ (Ne.symm sep.zi2)).trans q
    · have hlt : c < s.heap.objs.size := by
        rcases (show c = N + 4 ∨ c = N + 2 ∨ c = N + 3 ∨ c = N ∨ c = N + 1 by simpa using hcm) with q | q | q | q | q
        · rw [q]; exact hzl
        · rw [q]; exact Nat.lt_of_le_of_lt (Nat.add_le_add_left (by decide : 2 ≤ 4) N) hzl
        · rw [q]; exact Nat.lt_of_le_of_lt (Nat.add_le_add_left (by decide : 3 ≤ 4) N) hzl
        · rw [q]; exact Nat.lt_of_le_of_lt (Nat.le_add_right N 4) hzl
        · rw [q]; exact Nat.lt_of_le_of_lt (Nat.add_le_add_left (by decide : 1 ≤ 4) N) hzl
      rw [upd_ne (Nat.ne_of_lt hlt)]
      exact (hf c hcm).1
  done := by
    intro X hP hw hK hc i pins s σ H E I hf st hg
    subst hP hw hK
    obtain ⟨hz, hTI, ⟨x0, y0, hTO⟩, g1, g2⟩ := st
    obtain ⟨xs, ys, hqx, hqy, e1, e2, e3⟩ := hg
    obtain ⟨its, rv, p⟩ := seqX I hqx
    obtain ⟨its2, rv2, p2⟩ := seqX I hqy
    have l1 := rv.length
    have l2 := rv2.length
    have sep : ZipSep2 (N + 4) (N + 2) (N + 3) N (N + 1) [N, a1] [N + 1, a2] := zip_sep2 (by simpa using h1) (by simpa using h2)
    have a1N : a1 ≠ N := Nat.ne_of_lt h1
    have a2N : a2 ≠ N + 1 := Nat.ne_of_lt (Nat.lt_succ_of_lt h2)
    refine wpAny_pyNext_zipD2_end sep (drawsX (A := X.A.in1) (show X.A.in1.handled = none from I.ok.hd hc) b1 N a1 a1N its.toArray) (drawsX (A := X.A.in1) (show X.A.in1.handled = none from I.ok.hd hc) b2 (N + 1) a2 a2N its2.toArray) hz hTI hTO ⟨g1, p⟩ ⟨g2, p2⟩ (by simp; omega) (by simp; omega) (by simp; omega) fun h' tk hk => ⟨rfl, ?_⟩
    exact I.turnedL (t' := tk) (ch := [N + 4, N + 2, N + 3, N, N + 1]) (fun c o hb q => hk c o (fun q' => hb (by simp [q'])) (fun q' => hb (by simp [q'])) (fun q' => hb (by simp [q'])) (fun q' => hb (by simp [q'])) q) hf
  self := fun A i s Q E st h => wpAny_pyIter_zip st.1 h
def iZipX (K : PySem.W.Frag) (ta : TA) : TI := fun σ H R => ta σ H fun vs H1 => ∃ a1 a2 xs ys b1 b2, vs = [.ref a1, .ref a2] ∧ SqX K b1 H1 a1 xs ∧ SqX K b2 H1 a2 ys ∧ R (ItzX K b1 b2 a1 a2) H1
theorem pi_zipX {X : Cx} {e e2 : Expr} {ta : TA} {p pos tpos : Pos} {elts : List Expr} {kk : Nat} (hg : Gl X "zip") (hm : X.mg "zip" = none) (ha : PA X [e, e2] ta)
    (hs : starEach [e, e2] X.env = (false, eval e X.env) :: starEach [e2] X.env) (hpl : (backTo pos (starEach [e2] X.env)).any (·.1) = false) :
    PI X (.Tuple elts kk tpos) (.Call (.Name "zip" p) [e, e2] [] pos) (iZipX X.K ta) := by
  refine ⟨fun pins s σ H R I h => ?_⟩
  refine Call_ (ld_blt I hg hm PyProof.Rows.boot_zip (PyProof.Rows.callWith_type1 (thn (ha.run pos pins s σ H _ I h) fun us s1 ⟨vs, H1, I1, r1, q1⟩ => ?_) hs hpl))
  obtain ⟨a1, a2, xs, ys, b1, b2, ex, hqx, hqy, q⟩ := q1
  subst ex
  cases r1 with
  | cons r rr =>
    cases rr with
    | cons r' rr =>
      cases rr
      cases r
      cases r'
      obtain ⟨its, rv, p1⟩ := seqX I1 hqx
      obtain ⟨its2, rv2, p2⟩ := seqX I1 hqy
      have la := p1.lt
      have lb := p2.lt
      refine zip_begins2 (beginsX b1 a1 its.toArray) (beginsX b2 a2 its2.toArray) p1 p2 fun h' hz hTI hTO g1 g2 hsz hk => wpAny_pyIter_zip hz ?_
      have I2 : Inv X pins σ H1 { s1 with heap := h' } := I1.kept (t' := s1.toks) hk
      refine ⟨s1.heap.objs.size + 4, [s1.heap.objs.size + 4, s1.heap.objs.size + 2, s1.heap.objs.size + 3, s1.heap.objs.size, s1.heap.objs.size + 1], _, _, H1, rfl, I2, turn_zipX b1 b2 s1.heap.objs.size a1 a2 la lb, ⟨hz, hTI, ⟨_, _, hTO⟩, ItX.new g1, ItX.new g2⟩, fun c hcm => ?_, q⟩
      have hle : s1.heap.objs.size ≤ c := by
        rcases (show c = s1.heap.objs.size + 4 ∨ c = s1.heap.objs.size + 2 ∨ c = s1.heap.objs.size + 3 ∨ c = s1.heap.objs.size ∨ c = s1.heap.objs.size + 1 by simpa using hcm) with z | z | z | z | z <;> rw [z]
        · exact Nat.le_add_right _ _
        · exact Nat.le_add_right _ _
        · exact Nat.le_add_right _ _
        · exact Nat.le_refl _
        · exact Nat.le_add_right _ _
      exact I1.fpOk hle (I1.hok.fresh hle)
/-! ### a list or a tuple itself -/
def iSeqX (K : PySem.W.Frag) (tl : TE) : TI := fun σ H R => tl σ H fun x H1 => ∃ a xs b, x = .ref a ∧ SqX K b H1 a xs ∧ R (if b = true then Itt K a else Itl K a) H1
theorem pi_seqX {X : Cx} {tg l : Expr} {tl : TE} (hl : PE X l tl) : PI X tg l (iSeqX X.K tl) := by
  refine ⟨fun pins s σ H R I h => ?_⟩
  refine thn (hl.run pins s σ H _ I h) fun v s1 ⟨x, H1, I1, r1, q1⟩ => ?_
  obtain ⟨a, xs, b, e, hq, q⟩ := q1
  subst e
  cases r1
  have fr : ∀ c ∈ [s1.heap.objs.size], FpOk X pins H1 c := fun c hb => by
    have e : c = s1.heap.objs.size := by simpa using hb
    subst e
    exact I1.fpOk (Nat.le_refl _) (I1.hok.fresh (Nat.le_refl _))
  obtain ⟨its, rv, p⟩ := seqX I1 hq
  cases b with
  | true => exact wpAny_pyIter_tuple p ⟨s1.heap.objs.size, [s1.heap.objs.size], _, _, H1, rfl, I1.kept (t' := s1.toks) fun b o e => Heap.get?_push_of_some _ e, turn_tuple a _, ⟨_, Heap.get?_push_size _ rfl, rfl, rfl⟩, fr, q⟩
  | false => exact wpAny_pyIter_list p ⟨s1.heap.objs.size, [s1.heap.objs.size], _, _, H1, rfl, I1.kept (t' := s1.toks) fun b o e => Heap.get?_push_of_some _ e, turn_list a _, ⟨_, Heap.get?_push_size _ rfl, rfl, rfl⟩, fr, q⟩
end DL
/-! DL, a def's promise where nothing is being shown (no guard around): what repr asks -/
namespace DL
open PySem PySem.Spec PyProof.Rows L2
structure FnG (P : Program) (w : World) (K : PySem.W.Frag) (mg : Str → Option Value) (base : Heap) (CX : CXT) (k : Nat) (f : Addr) (fd : FuncData) (ps : List Str) (sp : Sp) : Prop where
  len : ∀ vs H Q E, sp vs H Q E → vs.length = ps.length
  run : ∀ (A : Around) (outer : List Env) (s : Shared) (H : Hp) (args : Args) (us : List Value) (vs : List V) (Q : VK) (E : XK), A.guards = some [] → Room k A → Env0 P w K mg base A outer s H →
    BindsTo s fd args (ps.zip us) → Vals vs us → sp vs H Q E → codeAny (model P w) A (.call (.ref f) args) (CR CX outer P w H s Q E) s
section
variable {P : Program} {w : World} {K : PySem.W.Frag} {mg : Str → Option Value} {base : Heap} {CX : CXT} {k : Nat} {f : Addr} {fd : FuncData} {ps : List Str} {sp : Sp}
/-- from the body -/
theorem fnG_of {qual x : Str} {st : Stmt} {N : List Str} (F : Fun K x qual st f fd) (Sc : FnScope N ps (defScope st)) (len : ∀ vs H Q E, sp vs H Q E → vs.length = ps.length)
    (body : ∀ (cdv : Value) (A : Around) (outer : List Env) (s : Shared) (H : Hp) (vs : List V) (Q : VK) (E : XK), A.guards = some [] → Room k (A.deeper (envOfC qual (defScope st) s.heap.objs.size f cdv)) → sp vs H Q E →
      ∃ t, PSs (cxOf CX P w K mg base N qual (defScope st) f cdv A outer s H E) (defBody st) t ∧ t { nx := fun _ H' => Q .non H', rt := Q } (L2.start N vs) H) : FnG P w K mg base CX (k + 1) f fd ps sp := by
  obtain ⟨oc, od, kV, doc, pm, an, cdv, ct, osl, rfl, lk, hcd⟩ := F.ex
  constructor
  · exact len
  intro A outer s H args us vs Q E hgu hr e0 hb r hsp
  have KX : K.In s.heap := e0.mod.kin.keeps fun b o e => (e0.bs b o e).1
  have kinds : ∀ y ∈ ps.zip us, (defScope st).names.lookup y.1 = some .local ∨ ((defScope st).names.lookup y.1 = some .cell ∧ ((cellsFrom (s.heap.objs.size + 1) (defScope st).names []).lookup y.1).isSome = true) := fun y hy =>
    (Sc.par y.1 (List.of_mem_zip (a := y.1) (b := y.2) hy).1).imp id fun q => ⟨q, PySem.W.cellsFrom_some _ _ _ (.inl q)⟩
  refine codeAny_call_function hr.depth (KX _ _ lk) rfl Sc.co Sc.gen rfl (PySem.W.codeRec_of KX hcd) (hb _ _ _ _ (wpAny_newFunctionEnv_cells Sc.kind kinds fun env he s1 x => ?_))
  subst he
  refine ⟨(e0.mod.nolimit.keeps fun b o e => (e0.bs b o e).1).keeps x.toInCall.keep, codeAny_func ?_⟩
  obtain ⟨t, ht, hq⟩ := body cdv A outer s H vs Q E hgu (hr.deeper _) hsp
  have I := inv_start (CX := CX) (P := P) (w := w) (K := K) (mg := mg) (base := base) (f := f) (cd := cdv) (E := E) Sc hr.hd e0 (len _ _ _ _ hsp) r x
  refine wpAny_mono (ht.run [] s1 (L2.start N vs) H _ I hq) (fun fl s' hs => ?_) fun e s' hs => hs
  match fl, hs with
  | .ret u, ⟨v, σ', H', J, rv, q⟩ => exact ⟨v, H', J.os, J.bare, J.base, J.hok, rv, q⟩
  | .next, ⟨σ', H', J, q⟩ => exact ⟨V.non, H', J.os, J.bare, J.base, J.hok, rfl, q⟩
  | .brk, ⟨_, _, _, q⟩ => exact q.elim
  | .cont, ⟨_, _, _, q⟩ => exact q.elim
end
section
variable {X : Cx} {CX : CXT} {k : Nat} {f : Addr} {fd : FuncData} {ps : List Str} {sp : Sp} {E : XK} {x : Str} {p pos : Pos} {e : Expr} {es : List Expr} {t : TA}
theorem pe_callG (F : FnG X.prog X.w X.K X.mg X.base CX k f fd ps sp) (hgu : X.A.guards = some []) (hr : Room k X.A) (hg : Gl X x) (hm : X.mg x = some (.ref f)) (hk : PySem.W.keepIn X.K (.ref f) = true) (hb : Binds X.K fd ps []) (hx : Passes CX X E)
    (ha : PA X (e :: es) t) (hdb : (x == ("__debug__" : Str)) = false) (he : starEach (e :: es) X.env = (false, eval e X.env) :: starEach es X.env) (hpl : (backTo pos (starEach es X.env)).any (·.1) = false) :
    PE X (.Call (.Name x p) (e :: es) [] pos) (tCall sp [] E t) := by
  refine ⟨fun pins s σ H Q I h => wpAny_Call_Name_kw (ld_glob I hg hm ?_ hdb)⟩
  refine PySem.W.callWith_K (h₀ := X.base) I.ok.mod.kin hk (thn (ha.run pos pins s σ H _ I h) fun us s1 ⟨vs, H1, I1, r, q⟩ => ⟨I1.kIn, ?_⟩) he hpl
  have q : sp (vs ++ []) H1 Q E := q
  rw [List.append_nil] at q
  have hl : us.length = ps.length := r.length.symm.trans (F.len _ _ _ _ q)
  have bnd := hb s1 us I1.kIn (by rw [List.append_nil]; exact hl)
  rw [List.append_nil] at bnd
  refine wpAny_call (codeAny_mono (F.run X.A X.stack s1 H1 ⟨us, []⟩ us vs Q E hgu hr I1.env0 bnd r q) fun r' s' hq => ?_)
  match r', hq with
  | .error e', hq => exact hx pins σ H1 s1 e' s' I1 hq
  | .ok (.ret u), hq => exact I1.after hq
  | .ok .next, hq => exact hq.elim
  | .ok .brk, hq => exact hq.elim
  | .ok .cont, hq => exact hq.elim
theorem pe_callG0 (F : FnG X.prog X.w X.K X.mg X.base CX k f fd ps sp) (hgu : X.A.guards = some []) (hr : Room k X.A) (hg : Gl X x) (hm : X.mg x = some (.ref f)) (hk : PySem.W.keepIn X.K (.ref f) = true) (hb : Binds X.K fd ps []) (hx : Passes CX X E)
    (hdb : (x == ("__debug__" : Str)) = false) : PE X (.Call (.Name x p) [] [] pos) (tCall sp [] E tNil) := by
  refine ⟨fun pins s σ H Q I q => wpAny_Call_Name_kw (ld_glob I hg hm ?_ hdb)⟩
  have q : sp [] H Q E := q
  have bnd := hb s [] I.kIn (by rw [List.append_nil]; exact (F.len _ _ _ _ q : ([] : List V).length = _))
  refine PySem.W.callWith_K0 I.kIn hk (wpAny_call (codeAny_mono (F.run X.A X.stack s H ⟨[], []⟩ [] [] Q E hgu hr I.env0 bnd .nil q) fun r' s' hq => ?_))
  match r', hq with
  | .error e', hq => exact hx pins σ H s e' s' I hq
  | .ok (.ret u), hq => exact I.after hq
  | .ok .next, hq => exact hq.elim
  | .ok .brk, hq => exact hq.elim
  | .ok .cont, hq => exact hq.elim
end
/-! ### the law's own end -/
section
variable {P : Program} {w : World} {K : PySem.W.Frag} {mg mb : Str → Option Value} {k : Nat} {fa a : Addr} {sp : Sp} {s1 : Shared} {vs : List Value} {ns : List Int}
theorem lawG_core {H : Hp} (KX : K.In s1.heap) (hns : s1.heap.Ns mainGlobals mg) (hb : s1.heap.Ns builtinsNs mb) (hbb : ∀ x : Str, x ≠ "__name__" → mb x = bootBuiltins x) (hlim : s1.heap.NoLimit) (hg : s1.gens = #[])
    (ha : s1.heap.get? a = some { cls := .type "list", data := .seq vs.toArray }) (hr : Room k callerA)
    (F : ∀ base : Heap, K.In base → base.Ns mainGlobals mg → ∃ (fd : FuncData) (ps : List Str), FnG P w K mg base CX0 k fa fd ps sp ∧ Binds K fd ps [])
    (hO : Only H) (hsp : sp [.ref a] H (fun v _ => v = .bl true) E0) (hok : HOk P w H s1.heap) (hA : ∀ b, H b ≠ none → b = a) (hK : H a ≠ none → K.lookup a = none) :
    codeAny (model P w) callerA (.call (.ref fa) ⟨[.ref a], []⟩) (fun r s' => r = .ok (.ret (.bool true)) ∧ OldK s1.heap s'.heap ∧ s'.os = s1.os ∧ AllBare s'.gens) s1 := by
  have free : ∀ {b : Addr} {o : Obj}, s1.heap.get? b = some o → (b = a → False) → H b = none := fun {b o} e hne => by
    cases q : H b with
    | none => rfl
    | some u => exact (hne (hA b (by rw [q]; exact fun z => nomatch z))).elim
  have space : ∀ {b : Addr} {m : Str → Option Value}, s1.heap.Ns b m → (hidT s1.heap H).Ns b m := fun {b m} ⟨o, es, ep, e, d, r⟩ => ⟨o, es, ep, hidT_get e (free e fun z => by
    subst z
    rw [ha] at e
    cases e
    cases d), d, r⟩
  have inK : K.In (hidT s1.heap H) := fun b o e => hidT_get (KX b o e) (by
    cases q : H b with
    | none => rfl
    | some u =>
      have hb : b = a := hA b (by rw [q]; exact fun z => nomatch z)
      subst hb
      rw [hK (by rw [q]; exact fun z => nomatch z)] at e
      cases e)
  obtain ⟨mc, l1, l2⟩ := hlim
  have e0 : Env0 P w K mg (hidT s1.heap H) callerA [] s1 H :=
    ⟨rfl, ⟨inK, space hns, ⟨mb, space hb, hbb⟩, ⟨mc, space l1, l2⟩⟩, fun b o e => of_hidT e, Nat.le_of_eq (hidT_size _ _), trivial, fun b hb => (List.not_mem_nil hb).elim, hok, .of_eq hg⟩
  obtain ⟨fd, ps, F, hb⟩ := F _ inK (space hns)
  have hl : 1 = ps.length := F.len _ _ _ _ hsp
  have hbind := hb s1 [.ref a] KX hl
  rw [List.append_nil] at hbind
  refine codeAny_mono (F.run callerA [] s1 H ⟨[.ref a], []⟩ [.ref a] [.ref a] _ _ rfl hr e0 hbind (.cons rfl .nil) hsp) fun r s' h => ?_
  match r, h with
  | .error e, h => exact h.elim
  | .ok .next, h => exact h.elim
  | .ok .brk, h => exact h.elim
  | .ok .cont, h => exact h.elim
  | .ok (.ret u), ⟨v, H', os, bare, un, hok', r', q⟩ =>
    have q : v = .bl true := q
    subst q
    obtain rfl : u = Value.bool true := r'
    refine ⟨rfl, OldK.of_keep fun b o e => ?_, os, bare⟩
    rcases hO b with z | ⟨ob, xs, z⟩
    · exact un.keep b o e z (fun hm => (List.not_mem_nil hm).elim) (fun hm => (List.not_mem_nil hm).elim)
    · obtain ⟨e1, _⟩ := hok b _ z
      obtain ⟨e2, _⟩ := hok' b _ (un.frzs b ob _ z)
      rw [e] at e1
      cases e1
      exact e2
theorem lawG (KX : K.In s1.heap) (hns : s1.heap.Ns mainGlobals mg) (hb : s1.heap.Ns builtinsNs mb) (hbb : ∀ x : Str, x ≠ "__name__" → mb x = bootBuiltins x) (hlim : s1.heap.NoLimit) (hg : s1.gens = #[])
    (ha : s1.heap.get? a = some { cls := .type "list", data := .seq vs.toArray }) (hi : IntsAre vs ns) (hl : ns.length ≤ sizeLine) (hr : Room k callerA)
    (F : ∀ base : Heap, K.In base → base.Ns mainGlobals mg → ∃ (fd : FuncData) (ps : List Str), FnG P w K mg base CX0 k fa fd ps sp ∧ Binds K fd ps [])
    (hsp : ∀ H : Hp, SqL K H a (ns.map V.int) → sp [.ref a] H (fun v _ => v = .bl true) E0) :
    codeAny (model P w) callerA (.call (.ref fa) ⟨[.ref a], []⟩) (fun r s' => r = .ok (.ret (.bool true)) ∧ OldK s1.heap s'.heap ∧ s'.os = s1.os ∧ AllBare s'.gens) s1 := by
  have rv := vals_ints hi
  cases hk : K.lookup a with
  | some o =>
    have e := KX a o hk
    rw [ha] at e
    cases e
    exact lawG_core (H := fun _ => none) KX hns hb hbb hlim hg ha hr F (fun _ => .inl rfl) (hsp _ (.inr ⟨_, vs.toArray, _, hk, rfl, rfl, rfl, by rw [List.size_toArray, hi.length]; exact hl, by simpa using rv⟩)) (fun b u z => nomatch z) (fun b z => (z rfl).elim) fun z => (z rfl).elim
  | none =>
    have here : (fun b => if b = a then some (HO.frz { cls := .type "list", data := .seq vs.toArray } (.lst (ns.map V.int))) else none) a = some (HO.frz { cls := .type "list", data := .seq vs.toArray } (.lst (ns.map V.int))) := if_pos rfl
    refine lawG_core (H := fun b => if b = a then some (.frz { cls := .type "list", data := .seq vs.toArray } (.lst (ns.map V.int))) else none) KX hns hb hbb hlim hg ha hr F (fun b => ?_) (hsp _ (.inl (.inr ⟨_, here⟩))) (fun b u z => ?_) (fun b z => ?_) fun _ => hk
    · by_cases hba : b = a
      · exact .inr ⟨_, _, if_pos hba⟩
      · exact .inl (if_neg hba)
    · by_cases hba : b = a
      · subst hba
        have z := here.symm.trans z
        cases z
        exact ⟨ha, by rw [List.length_map]; exact hl, vs, _, rv, ha⟩
      · have z := (if_neg hba).symm.trans z
        cases z
    · by_cases hba : b = a
      · exact hba
      · exact (z (if_neg hba)).elim
end
/-- what k_head leaves, from the law's promise -/
theorem walkG {l : PySem.W.OpenLaw} {n k : Nat} {q : Program} {loose : List Str} {XP : (Str → Option Value) → Heap → Prop} {YP : World → Heap → Prop} {d : DefRec}
    (hn : l.most = some n) (hn2 : n ≤ sizeLine) (hdf : d.params.defaults = []) (hr : Room k callerA)
    (F : ∀ (w : World) (mg : Str → Option Value) (fa : Addr) (h : Heap), YP w h → h.Ns mainGlobals mg → mg d.name = some (.ref fa) → ∃ K : PySem.W.Frag, K.In h ∧ ∃ sp : Sp, (∀ (H : Hp) (a : Addr) (ns : List Int), ns.length ≤ n → SqL K H a (ns.map V.int) → sp [.ref a] H (fun v _ => v = .bl true) E0) ∧
      ∀ base : Heap, K.In base → base.Ns mainGlobals mg → ∃ (fd : FuncData) (ps : List Str), FnG l.prog w K mg base CX0 k fa fd ps sp ∧ Binds K fd ps []) :
    PySem.W.WalkO q loose XP YP l.row.toRowW d [] (fun f vs => PySem.call f vs) := by
  refine Att.attach_call hn hdf fun w s₀ s1 mg mb fa o pm cd doc a vs ns G Y ho hd hcd hmg hobj hints hlen hg => ?_
  obtain ⟨K, KX, sp, hsp, hF⟩ := F w mg fa _ Y G.T.g hmg
  exact lawG KX G.T.g G.T.b G.T.builtins G.T.nolimit hg hobj hints (Nat.le_trans hlen hn2) hr hF fun H hS => hsp H a ns hlen hS
end DL
/-! DL, fourth part: what is walked, comprehensions, calls -/
namespace DL
open PySem PySem.Spec PyProof.Rows L2
section
variable {K : PySem.W.Frag} {S S' H H' : Hp} {ps qs : List Addr} {C C' : List Cont}
def isT : Den → Bool
  | .dat (.tuple _) => true
  | _ => false
theorem Core.seqX {v : V} {d : Den} {xs : List Den} (c : Core K S ps C H) (h : DenOk K S ps v d) (hx : items C d = some xs) : ∃ a vs, v = .ref a ∧ SqX K (isT d) H a vs ∧ DensOk K S ps vs xs := by
  cases d with
  | dat d =>
    cases d with
    | list ds =>
      cases hx
      have h : Rp K S v (.list ds) := h
      cases h with
      | lst h1 h2 => exact ⟨_, _, rfl, SqL.of (c.sub _ _ h1), h2.dens⟩
    | tuple ds =>
      cases hx
      have h : Rp K S v (.tuple ds) := h
      cases h with
      | tup h1 h2 => exact ⟨_, _, rfl, same_seqT c.sub h1, h2.dens⟩
    | _ => cases hx
  | own k =>
    obtain ⟨p, h1, h2⟩ := h
    simp only [items] at hx
    split at hx
    · rename_i ys hC
      cases hx
      obtain ⟨vs, e1, e2⟩ := c.cont k p _ h1 hC
      exact ⟨p, vs, h2, SqL.of e1, e2⟩
    · cases hx
  | rdl ds =>
    cases hx
    obtain ⟨a, vs, h1, h2, h3⟩ := h
    exact ⟨a, vs, h1, c.sub.seq h2, h3.dens⟩
  | ty n => cases hx
theorem Core.seqA {a : Addr} {d : Den} {xs : List Den} (c : Core K S ps C H) (h : DenOk K S ps (.ref a) d) (hx : items C d = some xs) : ∃ vs, SqX K (isT d) H a vs ∧ DensOk K S ps vs xs := by
  obtain ⟨a', vs, e, h1, h2⟩ := c.seqX h hx
  cases e
  exact ⟨vs, h1, h2⟩
theorem iter_seq {a : Addr} {d : Den} {xs : List Den} (h : DenOk K S ps (.ref a) d) : IterOk K S ps (if isT d = true then Itt K a else Itl K a) xs (fun C => items C d = some xs) where
  go := fun S' qs C H i e c g hi => by
    obtain ⟨vs, h1, h2⟩ := c.seqA (h.mono e) g
    obtain ⟨v, hv, _⟩ := Paired.get h2 (List.getElem?_eq_getElem hi)
    generalize isT d = b at h1
    cases b with
    | true => exact ⟨vs, v, h1, hv⟩
    | false => exact ⟨vs, v, h1, hv⟩
  stop := fun S' qs C H e c g => by
    obtain ⟨vs, h1, h2⟩ := c.seqA (h.mono e) g
    have hl := Paired.len h2
    generalize isT d = b at h1
    cases b with
    | true => exact ⟨vs, h1, by omega⟩
    | false => exact ⟨vs, h1, by omega⟩
  yld := fun S' qs C H i x H3 e c g hi y => by
    obtain ⟨vs, h1, h2⟩ := c.seqA (h.mono e) g
    obtain ⟨v, hv, hd⟩ := Paired.get h2 (List.getElem?_eq_getElem hi)
    have key : H3 = H ∧ vs[i]? = some x := by
      generalize isT d = b at h1 y
      cases b with
      | true => exact ⟨y.1, y.2 vs h1⟩
      | false => exact ⟨y.1, y.2 vs h1⟩
    obtain ⟨e1, e2⟩ := key
    subst e1
    rw [hv] at e2
    cases e2
    exact ⟨S', xs[i], .refl, c, List.getElem?_eq_getElem hi, hd⟩
theorem iter_range {lo : Int} {n : Nat} : IterOk K S ps (Itr lo n) ((List.range n).map fun (i : Nat) => DI (lo + (i : Int))) (fun _ => True) where
  go := fun S' qs C H i e c g hi => by
    show i < n
    simpa using hi
  stop := fun S' qs C H e c g => by
    show n ≤ _
    simp
  yld := fun S' qs C H i x H3 e c g hi y => by
    obtain ⟨rfl, rfl⟩ := y
    have hi' : i < n := by simpa using hi
    exact ⟨S', DI (lo + (i : Int)), .refl, c, by simp [hi'], Rp.int _⟩
theorem iter_rangeC {lo st : Int} {n : Nat} : IterOk K S ps (Itc lo st n) ((List.range n).map fun (i : Nat) => DI (lo + (i : Int) * st)) (fun _ => True) where
  go := fun S' qs C H i e c g hi => by
    show i < n
    simpa using hi
  stop := fun S' qs C H e c g => by
    show n ≤ _
    simp
  yld := fun S' qs C H i x H3 e c g hi y => by
    obtain ⟨rfl, rfl⟩ := y
    have hi' : i < n := by simpa using hi
    exact ⟨S', DI (lo + (i : Int) * st), .refl, c, by simp [hi'], Rp.int _⟩
/-- the pairs of place and item -/
def enumD (k : Nat) : List PyData → List PyData
  | [] => []
  | y :: ys => .tuple [.int (k : Int), y] :: enumD (k + 1) ys
theorem enumD_len : ∀ (ys : List PyData) (k : Nat), (enumD k ys).length = ys.length
  | [], _ => rfl
  | _ :: ys, k => by simp [enumD, enumD_len ys]
theorem enumD_get : ∀ (ys : List PyData) (k i : Nat), (enumD k ys)[i]? = ys[i]?.map fun y => .tuple [.int ((k + i : Nat) : Int), y]
  | [], _, _ => by simp [enumD]
  | y :: ys, k, 0 => by simp [enumD]
  | y :: ys, k, i + 1 => by
    simp only [enumD, List.getElem?_cons_succ, enumD_get ys (k + 1) i]
    have : k + 1 + i = k + (i + 1) := by omega
    rw [this]
theorem iter_enum {a : Addr} {d : Den} {ys : List PyData} (h : DenOk K S ps (.ref a) d) : IterOk K S ps (IteX K (isT d) a) ((enumD 0 ys).map .dat) (fun C => items C d = some (ys.map .dat)) where
  go := fun S' qs C H i e c g hi => by
    obtain ⟨vs, h1, h2⟩ := c.seqA (h.mono e) g
    rw [List.length_map, enumD_len] at hi
    obtain ⟨v, hv, _⟩ := Paired.get h2 (i := i) (b := .dat ys[i]) (by simp [hi])
    exact ⟨vs, v, h1, hv⟩
  stop := fun S' qs C H e c g => by
    obtain ⟨vs, h1, h2⟩ := c.seqA (h.mono e) g
    have hl := Paired.len h2
    rw [List.length_map] at hl
    exact ⟨vs, h1, by rw [List.length_map, enumD_len]; exact hl⟩
  yld := fun S' qs C H i x H3 e c g hi y => by
    obtain ⟨vs, h1, h2⟩ := c.seqA (h.mono e) g
    rw [List.length_map, enumD_len] at hi
    obtain ⟨v, hv, hd⟩ := Paired.get h2 (i := i) (b := .dat ys[i]) (by simp [hi])
    obtain ⟨T, x', rfl, hT, rfl, hx⟩ := y
    have e2 := hx vs h1
    rw [hv] at e2
    cases e2
    obtain ⟨c2, e2⟩ := c.laid (o := .tup [.int (i : Nat), v]) hT
    refine ⟨_, DTu [.int (i : Nat), ys[i]], e2, c2, ?_, Rp.tup (SqT.of upd_same) (.cons (.int _) (.cons (Rp.mono e2.ss _ _ hd) .nil))⟩
    simp [enumD_get, hi]
/-- the pairs of items -/
def zipD : List PyData → List PyData → List PyData
  | x :: xs, y :: ys => .tuple [x, y] :: zipD xs ys
  | _, _ => []
theorem zipD_len : ∀ (xs ys : List PyData), (zipD xs ys).length = min xs.length ys.length
  | [], _ => by simp [zipD]
  | _ :: _, [] => by simp [zipD]
  | _ :: xs, _ :: ys => by
    simp only [zipD, List.length_cons, zipD_len xs ys]
    omega
theorem zipD_get : ∀ (xs ys : List PyData) (i : Nat) (x y : PyData), xs[i]? = some x → ys[i]? = some y → (zipD xs ys)[i]? = some (.tuple [x, y])
  | [], _, _, _, _, h, _ => by simp at h
  | _ :: _, [], _, _, _, _, h => by simp at h
  | _ :: _, _ :: _, 0, _, _, h1, h2 => by
    simp at h1 h2
    simp [zipD, h1, h2]
  | _ :: xs, _ :: ys, i + 1, x, y, h1, h2 => by
    simp only [List.getElem?_cons_succ] at h1 h2
    simp only [zipD, List.getElem?_cons_succ]
    exact zipD_get xs ys i x y h1 h2
theorem iter_zip {a1 a2 : Addr} {d1 d2 : Den} {xs ys : List PyData} (h : DenOk K S ps (.ref a1) d1) (h' : DenOk K S ps (.ref a2) d2) :
    IterOk K S ps (ItzX K (isT d1) (isT d2) a1 a2) ((zipD xs ys).map .dat) (fun C => items C d1 = some (xs.map .dat) ∧ items C d2 = some (ys.map .dat)) where
  go := fun S' qs C H i e c g hi => by
    obtain ⟨vs, h1, h2⟩ := c.seqA (h.mono e) g.1
    obtain ⟨ws, h3, h4⟩ := c.seqA (h'.mono e) g.2
    rw [List.length_map, zipD_len] at hi
    obtain ⟨v, hv, _⟩ := Paired.get h2 (i := i) (b := .dat (xs[i]'(by omega))) (by simp [show i < xs.length by omega])
    obtain ⟨w, hw, _⟩ := Paired.get h4 (i := i) (b := .dat (ys[i]'(by omega))) (by simp [show i < ys.length by omega])
    exact ⟨vs, ws, v, w, h1, h3, hv, hw⟩
  stop := fun S' qs C H e c g => by
    obtain ⟨vs, h1, h2⟩ := c.seqA (h.mono e) g.1
    obtain ⟨ws, h3, h4⟩ := c.seqA (h'.mono e) g.2
    have hl := Paired.len h2
    have hl2 := Paired.len h4
    rw [List.length_map] at hl hl2
    rw [List.length_map, zipD_len]
    exact ⟨vs, ws, h1, h3, by omega, by omega, by omega⟩
  yld := fun S' qs C H i x H3 e c g hi y => by
    obtain ⟨vs, h1, h2⟩ := c.seqA (h.mono e) g.1
    obtain ⟨ws, h3, h4⟩ := c.seqA (h'.mono e) g.2
    rw [List.length_map, zipD_len] at hi
    have hi1 : i < xs.length := by omega
    have hi2 : i < ys.length := by omega
    obtain ⟨v, hv, hd⟩ := Paired.get h2 (i := i) (b := .dat xs[i]) (by simp [hi1])
    obtain ⟨w, hw, hd2⟩ := Paired.get h4 (i := i) (b := .dat ys[i]) (by simp [hi2])
    obtain ⟨T, x', y', rfl, hT, rfl, hx, hy⟩ := y
    have e2 := hx vs h1
    rw [hv] at e2
    cases e2
    have e3 := hy ws h3
    rw [hw] at e3
    cases e3
    obtain ⟨c2, e2⟩ := c.laid (o := .tup [v, w]) hT
    refine ⟨_, DTu [xs[i], ys[i]], e2, c2, ?_, Rp.tup (SqT.of upd_same) (.cons (Rp.mono e2.ss _ _ hd) (.cons (Rp.mono e2.ss _ _ hd2) .nil))⟩
    rw [List.getElem?_map, zipD_get xs ys i xs[i] ys[i] (by simp [hi1]) (by simp [hi2])]
    rfl
end
section
variable {c : Cfg} {ρ : DEnv} {C : List Cont} {a b e e2 e3 tg iter elt : Expr} {es ifs : List Expr} {pos p : Pos} {D : DEnds} {PI' : List Den → (List Cont → Prop) → List Cont → Prop} {P : Den → List Cont → Prop} {x : Str}
theorem ei_seq (h : Ev c e ρ C fun d C1 => ∃ xs, items C1 d = some xs ∧ PI' xs (fun C' => items C' d = some xs) C1) : Ei c tg e ρ C PI' := by
  intro X hX S ps σ H hc he R k
  refine EI.of (pi_seqX EE.pe) ?_
  refine h X hX S ps σ H hc he _ fun S1 ps1 H1 C1 v d e1 c1 o1 ⟨xs, hx, hp⟩ => ?_
  obtain ⟨a, vs, rfl, h1, h2⟩ := c1.seqX o1 hx
  refine ⟨a, vs, isT d, rfl, by rw [hX.K]; exact h1, ?_⟩
  rw [hX.K]
  exact k S1 ps1 H1 C1 _ xs _ e1 c1 (iter_seq o1) hp
theorem ei_range1 (hg : glB c.sc "range" = true) (hm : c.g.mg "range" = none) (hp : plainArgs [a] = true) (h : Ea c [a] ρ C fun ds C1 => ∃ n : Int, ds = [DI n] ∧ n < 2 ^ 62 ∧ -(2 ^ 62) ≤ n ∧ PI' ((List.range n.toNat).map fun (i : Nat) => DI (0 + (i : Int))) (fun _ => True) C1) : Ei c tg (.Call (.Name "range" p) [a] [] pos) ρ C PI' := by
  intro X hX S ps σ H hc he R k
  have hp1 : plainArg a = true := by simpa [plainArgs] using hp
  refine EI.of (pi_range1 (gl_b hX hg) (by rw [hX.mg]; exact hm) EAs.pa (plain_arg hp1)) ?_
  refine h X hX S ps σ H hc he _ fun S1 ps1 H1 C1 vs ds e1 c1 o1 ⟨n, hd, hb1, hb2, hq⟩ => ?_
  subst hd
  cases o1 with
  | cons r rr =>
    cases rr
    cases r
    exact ⟨n, rfl, hb2, hb1, k S1 ps1 H1 C1 _ _ _ e1 c1 iter_range hq⟩
theorem ei_range2 (hg : glB c.sc "range" = true) (hm : c.g.mg "range" = none) (hp : plainArgs [a, b] = true) (h : Ea c [a, b] ρ C fun ds C1 => ∃ lo n : Int, ds = [DI lo, DI n] ∧ (-(2 ^ 62) ≤ lo ∧ lo < 2 ^ 62 ∧ -(2 ^ 62) ≤ n ∧ n < 2 ^ 62) ∧ PI' ((List.range (n - lo).toNat).map fun (i : Nat) => DI (lo + (i : Int))) (fun _ => True) C1) : Ei c tg (.Call (.Name "range" p) [a, b] [] pos) ρ C PI' := by
  intro X hX S ps σ H hc he R k
  have hp1 : plainArg a = true ∧ plainArg b = true := by simpa [plainArgs] using hp
  refine EI.of (pi_range2 (gl_b hX hg) (by rw [hX.mg]; exact hm) EAs.pa (by rw [plain_arg hp1.1, plain_arg hp1.2]; rfl) (plain_arg hp1.2)) ?_
  refine h X hX S ps σ H hc he _ fun S1 ps1 H1 C1 vs ds e1 c1 o1 ⟨lo, n, hd, hb, hq⟩ => ?_
  subst hd
  cases o1 with
  | cons r rr =>
    cases rr with
    | cons r2 rr =>
      cases rr
      cases r
      cases r2
      exact ⟨lo, n, rfl, hb, k S1 ps1 H1 C1 _ _ _ e1 c1 iter_range hq⟩
theorem ei_enum {elts : List Expr} {kk : Nat} {tpos : Pos} (hg : glB c.sc "enumerate" = true) (hm : c.g.mg "enumerate" = none) (hp : plainArgs [e] = true) (h : Ea c [e] ρ C fun ds C1 => ∃ (d : Den) (ys : List PyData), ds = [d] ∧ items C1 d = some (ys.map .dat) ∧ PI' ((enumD 0 ys).map .dat) (fun C' => items C' d = some (ys.map .dat)) C1) :
    Ei c (.Tuple elts kk tpos) (.Call (.Name "enumerate" p) [e] [] pos) ρ C PI' := by
  intro X hX S ps σ H hc he R k
  have hp1 : plainArg e = true := by simpa [plainArgs] using hp
  refine EI.of (pi_enumX (gl_b hX hg) (by rw [hX.mg]; exact hm) EAs.pa (plain_arg hp1)) ?_
  refine h X hX S ps σ H hc he _ fun S1 ps1 H1 C1 vs ds e1 c1 o1 ⟨d, ys, hd, hi, hq⟩ => ?_
  subst hd
  cases o1 with
  | cons r rr =>
    cases rr
    obtain ⟨a, ws, rfl, h1, h2⟩ := c1.seqX r hi
    refine ⟨a, ws, isT d, rfl, by rw [hX.K]; exact h1, ?_⟩
    rw [hX.K]
    exact k S1 ps1 H1 C1 _ _ _ e1 c1 (iter_enum r) hq
theorem ei_zip {elts : List Expr} {kk : Nat} {tpos : Pos} (hg : glB c.sc "zip" = true) (hm : c.g.mg "zip" = none) (hp : plainArgs [e, e2] = true) (h : Ea c [e, e2] ρ C fun ds C1 => ∃ (d d2 : Den) (xs ys : List PyData), ds = [d, d2] ∧ items C1 d = some (xs.map .dat) ∧ items C1 d2 = some (ys.map .dat) ∧ PI' ((zipD xs ys).map .dat) (fun C' => items C' d = some (xs.map .dat) ∧ items C' d2 = some (ys.map .dat)) C1) :
    Ei c (.Tuple elts kk tpos) (.Call (.Name "zip" p) [e, e2] [] pos) ρ C PI' := by
  intro X hX S ps σ H hc he R k
  have hp1 : plainArg e = true ∧ plainArg e2 = true := by simpa [plainArgs] using hp
  have hp2 : plainArgs [e2] = true := by simpa [plainArgs] using hp1.2
  refine EI.of (pi_zipX (gl_b hX hg) (by rw [hX.mg]; exact hm) EAs.pa (plain_arg hp1.1) (plain_back hp2 pos)) ?_
  refine h X hX S ps σ H hc he _ fun S1 ps1 H1 C1 vs ds e1 c1 o1 ⟨d, d2, xs, ys, hd, hi, hi2, hq⟩ => ?_
  subst hd
  cases o1 with
  | cons r rr =>
    cases rr with
    | cons r2 rr =>
      cases rr
      obtain ⟨a, ws, rfl, h1, h2⟩ := c1.seqX r hi
      obtain ⟨a2, ws2, rfl, h3, h4⟩ := c1.seqX r2 hi2
      refine ⟨a, a2, ws, ws2, isT d, isT d2, rfl, by rw [hX.K]; exact h1, by rw [hX.K]; exact h3, ?_⟩
      rw [hX.K]
      exact k S1 ps1 H1 C1 _ _ _ e1 c1 (iter_zip r r2) hq
theorem ei_range3 (hg : glB c.sc "range" = true) (hm : c.g.mg "range" = none) (hp : plainArgs [a, b, e] = true) (h : Ea c [a, b, e] ρ C fun ds C1 => ∃ (lo hi st : Int) (n : Nat), ds = [DI lo, DI hi, DI st] ∧ RgC lo hi st n ∧ PI' ((List.range n).map fun (i : Nat) => DI (lo + (i : Int) * st)) (fun _ => True) C1) : Ei c tg (.Call (.Name "range" p) [a, b, e] [] pos) ρ C PI' := by
  intro X hX S ps σ H hc he R k
  have hp1 : plainArg a = true ∧ plainArg b = true ∧ plainArg e = true := by simpa [plainArgs] using hp
  have hp2 : plainArgs [b, e] = true := by simpa [plainArgs] using hp1.2
  refine EI.of (pi_range3 (gl_b hX hg) (by rw [hX.mg]; exact hm) EAs.pa (plain_arg hp1.1) (plain_back hp2 pos)) ?_
  refine h X hX S ps σ H hc he _ fun S1 ps1 H1 C1 vs ds e1 c1 o1 ⟨lo, hi, st, n, hd, hb, hq⟩ => ?_
  subst hd
  cases o1 with
  | cons r rr =>
    cases rr with
    | cons r2 rr =>
      cases rr with
      | cons r3 rr =>
        cases rr
        cases r
        cases r2
        cases r3
        exact ⟨lo, hi, st, n, rfl, hb, k S1 ps1 H1 C1 _ _ _ e1 c1 iter_rangeC hq⟩
/-! ### comprehensions -/
def Cfg.blk (c : Cfg) (scope : Scope) : Cfg := { c with sc := relS scope c.sc, fnm := fun x => scope.names.lookup x == some .cell }
theorem XOk.blk {X : Cx} (hX : XOk c X) (scope : Scope) (s : Shared) (H : Hp) (A : Addr) (cl : List (Str × Addr)) (fp : List Addr) : XOk (c.blk scope) (X.blk s H scope (compEnvC scope cl A X.env) fp) :=
  ⟨hX.prog, hX.w, hX.K, hX.mg, hX.base, hX.N, hX.nd, by rw [show (c.blk scope).sc = relS scope c.sc from rfl, ← hX.sc]; rfl, rfl, hX.calm, rfl, hX.room, hX.grd⟩
/-- a clause's tests -/
def Efs (c : Cfg) (ifs : List Expr) (ρ : DEnv) (C : List Cont) (P : Bool → List Cont → Prop) : Prop :=
  ∀ X, XOk c X → ∀ (S : Hp) (ps : List Addr) (σ : L2.St) (H : Hp), Core c.g.K S ps C H → EnvOk c.g.K S ps σ ρ → ∀ Q : Bool → Hp → Prop, PostB c.g.K S ps H P Q → ∃ t, PTs X ifs t ∧ t σ H Q
theorem efs_nil {PB : Bool → List Cont → Prop} (h : PB true C) : Efs c [] ρ C PB := fun X hX S ps σ H hc he Q k => ⟨_, pts_nil, k S ps H C true .refl hc h⟩
theorem efs_one {PB : Bool → List Cont → Prop} (h : Et c e ρ C PB) : Efs c [e] ρ C PB := fun X hX S ps σ H hc he Q k => ⟨_, pts_one EB.pt, h X hX S ps σ H hc he Q k⟩
def cG (X : Cx) (scope : Scope) (tg : Expr) : TG := fun v σ H Q => ∀ (s : Shared) (H0 : Hp) (A : Addr) (cl : List (Str × Addr)) (fp : List Addr), EG (X.blk s H0 scope (compEnvC scope cl A X.env) fp) tg v σ H Q
def cT (X : Cx) (scope : Scope) (ifs : List Expr) : TT := fun σ H Q => ∀ (s : Shared) (H0 : Hp) (A : Addr) (cl : List (Str × Addr)) (fp : List Addr), ∃ t, PTs (X.blk s H0 scope (compEnvC scope cl A X.env) fp) ifs t ∧ t σ H Q
def cE (X : Cx) (scope : Scope) (e : Expr) : TE := fun σ H Q => ∀ (s : Shared) (H0 : Hp) (A : Addr) (cl : List (Str × Addr)) (fp : List Addr), EE (X.blk s H0 scope (compEnvC scope cl A X.env) fp) e σ H Q
theorem cG_pg {X : Cx} {scope : Scope} (s : Shared) (H0 : Hp) (A : Addr) (cl : List (Str × Addr)) (fp : List Addr) : PG (X.blk s H0 scope (compEnvC scope cl A X.env) fp) tg (cG X scope tg) := ⟨fun pins s' σ H v u Q I r h => EG.pg.run pins s' σ H v u Q I r (h s H0 A cl fp)⟩
theorem cT_pt {X : Cx} {scope : Scope} (s : Shared) (H0 : Hp) (A : Addr) (cl : List (Str × Addr)) (fp : List Addr) : PTs (X.blk s H0 scope (compEnvC scope cl A X.env) fp) ifs (cT X scope ifs) := ⟨fun pins s' σ H Q I h => by
  obtain ⟨t, h1, h2⟩ := h s H0 A cl fp
  exact h1.run pins s' σ H Q I h2⟩
theorem cE_pe {X : Cx} {scope : Scope} (s : Shared) (H0 : Hp) (A : Addr) (cl : List (Str × Addr)) (fp : List Addr) : PE (X.blk s H0 scope (compEnvC scope cl A X.env) fp) e (cE X scope e) := ⟨fun pins s' σ H Q I h => EE.pe.run pins s' σ H Q I (h s H0 A cl fp)⟩
/-- what a comprehension's reading asks, by data -/
def Lc (c : Cfg) (scope : Scope) (vs : List Nat) (elt tg iter : Expr) (ifs : List Expr) (ρ : DEnv) (C : List Cont) (P : Den → List Cont → Prop) : Prop :=
  Ei c tg iter ρ C fun xs G C1 => ∃ Iv : Nat → List Cont → Prop, Iv 0 (C1 ++ [.lst []]) ∧ (∀ i C', i ≤ xs.length → Iv i C' → G C') ∧
    (∀ i d C', xs[i]? = some d → Iv i C' → Gv (c.blk scope) vs tg d (forg ρ vs) C' fun ρ2 C2 => Efs (c.blk scope) ifs ρ2 C2 fun b C3 =>
      (b = true → Ev (c.blk scope) elt ρ2 C3 fun y C4 => ∃ acc, C4[C1.length]? = some (.lst acc) ∧ acc.length < 1000000 ∧ Iv (i + 1) (C4.set C1.length (.lst (acc ++ [y])))) ∧ (b = false → Iv (i + 1) C3)) ∧
    (∀ C', Iv xs.length C' → P (.own C1.length) C')
theorem lc_raw {X : Cx} {scope : Scope} {vs : List Nat} {S : Hp} {ps : List Addr} {σ : L2.St} {H : Hp} {Q : VK} (hX : XOk c X) (hc : Core c.g.K S ps C H) (he : EnvOk c.g.K S ps σ ρ) (k : PostV c.g.K S ps H P Q) (h : Lc c scope vs elt tg iter ifs ρ C P) :
    tLc (EI X tg iter) (cG X scope tg) (cT X scope ifs) (cE X scope elt) vs σ H Q := by
  refine h X hX S ps σ H hc he _ fun S1 ps1 H1 C1 J xs G e1 c1 it ⟨Iv, h0, hG, hst, hd⟩ => ?_
  intro A hA
  obtain ⟨c0, e0⟩ := c1.owned (o := .lst []) (x := .lst []) hA ⟨[], upd_same, .nil⟩
  refine ⟨fun i m H' => m = xs.length - i ∧ i ≤ xs.length ∧ ∃ (S2 : Hp) (ps2 : List Addr) (C2 : List Cont), Ext S1 (ps1 ++ [A]) (upd H1 A (.lst [])) S2 ps2 H' ∧ Core c.g.K S2 ps2 C2 H' ∧ Iv i C2,
    ⟨xs.length, by simp, Nat.zero_le _, S1, ps1 ++ [A], C1 ++ [.lst []], .refl, c0, h0⟩, ?_⟩
  rintro i m H' ⟨rfl, hi, S2, ps2, C2, e2, c2, inv⟩
  obtain ⟨qs, hqs, _⟩ := e2.pre
  subst hqs
  have hat : ∀ rs : List Addr, (ps1 ++ [A] ++ qs ++ rs)[C1.length]? = some A := fun rs => by
    rw [← c1.len]
    simp
  have g := hG i C2 hi inv
  have ss12 : Same S1 S2 := e2.ss
  have c2' : Core c.g.K S2 (ps1 ++ ([A] ++ qs)) C2 H' := by rw [← List.append_assoc]; exact c2
  by_cases hlt : i < xs.length
  · refine .inr ⟨it.go S2 _ C2 H' i ss12 c2' g hlt, fun H3 => ∃ (S3 : Hp) (ps3 : List Addr) (C3 : List Cont), Ext S1 (ps1 ++ [A]) (upd H1 A (.lst [])) S3 ps3 H3 ∧ Core c.g.K S3 ps3 C3 H3 ∧ Iv (i + 1) C3,
      fun H3 n => ⟨xs.length - (i + 1), by omega, rfl, hlt, n⟩, fun x H3 y => ?_⟩
    obtain ⟨S3, d, e3, c3, hd3, o3⟩ := it.yld S2 _ C2 H' i x H3 ss12 c2' g hlt y
    rw [← List.append_assoc] at e3 c3 o3
    have e03 : Ext S ps H S3 (ps1 ++ [A] ++ qs) H3 := ((e1.trans e0).trans e2).trans e3
    intro s0 Hb Ab cl fp
    refine hst i d C2 hd3 inv _ (hX.blk scope s0 Hb Ab cl fp) S3 _ _ H3 x c3 ((he.ext e03).wipe vs) o3 _ fun S4 ps4 H4 C4 σ4 ρ4 e4 c4 en4 hb hw => ?_
    refine ⟨hw.trans wipe_wipe, ?_⟩
    intro s1 Hb1 Ab1 cl1 fp1
    refine hb _ (hX.blk scope s1 Hb1 Ab1 cl1 fp1) S4 ps4 σ4 H4 c4 en4 _ fun S5 ps5 H5 C5 z e5 c5 h5 => ?_
    have e05 : Ext S1 (ps1 ++ [A]) (upd H1 A (.lst [])) S5 ps5 H5 := ((e2.trans e3).trans e4).trans e5
    cases z with
    | false =>
      rw [if_neg Bool.false_ne_true]
      exact ⟨S5, ps5, C5, e05, c5, h5.2 rfl⟩
    | true =>
      rw [if_pos rfl]
      intro s2 Hb2 Ab2 cl2 fp2
      refine h5.1 rfl _ (hX.blk scope s2 Hb2 Ab2 cl2 fp2) S5 ps5 σ4 H5 c5 (en4.ext e5) _ fun S6 ps6 H6 C6 v6 y6 e6 c6 o6 ⟨acc, ha, hal, hiv⟩ => ?_
      have hp6 : ps6[C1.length]? = some A := by
        obtain ⟨q4, z4, _⟩ := e4.pre
        obtain ⟨q5, z5, _⟩ := e5.pre
        obtain ⟨q6, z6, _⟩ := e6.pre
        rw [z6, z5, z4, List.append_assoc, List.append_assoc]
        exact hat _
      obtain ⟨us, hu1, hu2⟩ := c6.cont _ _ _ hp6 ha
      have hlen := Paired.len hu2
      refine ⟨us, hu1, by rw [hlen]; exact Nat.lt_trans hal (by decide), ?_⟩
      obtain ⟨c7, e7⟩ := c6.wrote (o := .lst (us ++ [v6])) (y := .lst (acc ++ [y6])) hp6 ha (fun z => nomatch z) ⟨_, upd_same, Paired.app hu2 (.cons o6 .nil)⟩
      exact ⟨S6, ps6, _, (e05.trans e6).trans e7, c7, hiv⟩
  · have ei : i = xs.length := by omega
    subst ei
    refine .inl ⟨it.stop S2 _ C2 H' ss12 c2' g, k S2 _ H' C2 _ (.own C1.length) ((e1.trans e0).trans e2) c2 ⟨A, ?_, rfl⟩ (hd C2 inv)⟩
    have := hat []
    rwa [List.append_nil] at this
theorem ev_comp {scope : Scope} (own : List (Str × Nat)) (ok : blkC c.N c.sc scope own = true) (hs : ∀ env x, foldedSetIterable iter env x = pure x) (h : Lc c scope (own.map (·.2)) elt tg iter ifs ρ C P) : Ev c (.ListComp elt [⟨tg, iter, ifs, 0⟩] scope pos) ρ C P := by
  intro X hX S ps σ H hc he Q k
  exact EE.of (pe_lc (own := own) hX.calm hX.nd EI.pi (by rw [hX.N, hX.sc]; exact blkOk_by ok) cG_pg cT_pt cE_pe (hs X.env)) (lc_raw hX hc he k h)
/-- x = [..] on one line, x no cell -/
theorem s1_setc {scope : Scope} {y : Str} {py spos : Pos} (own : List (Str × Nat)) (i : Nat) (hN : c.N[i]? = some y) (hy : c.sc.names.lookup y = some .local) (hk : c.sc.kind = .function) (hl : (py.line == pos.line) = true) (ha : (scope.names.any fun (n, k) => n == y && (k == .local || k == .cell)) = false)
    (ok : blkC c.N c.sc scope own = true) (hs : ∀ env x, foldedSetIterable iter env x = pure x) (h : Lc c scope (own.map (·.2)) elt tg iter ifs ρ C fun d C1 => D.nx (ρ.set i (some d)) C1) : S1 c (.Assign [.Name y py] (.ListComp elt [⟨tg, iter, ifs, 0⟩] scope pos) spos) ρ C D := by
  intro X hX S ps σ H hc he E k
  refine ES.of (ps_setLc (i := i) (own := own) hX.calm hX.nd (by rw [hX.N]; exact hN) (by rw [hX.sc]; exact hy) (sw_true (by rw [hX.sc]; exact hk) (by rw [hX.sc]; exact hy) hl ha) EI.pi (by rw [hX.N, hX.sc]; exact blkOk_by ok) cG_pg cT_pt cE_pe (hs X.env)) ?_
  exact lc_raw (P := fun d C1 => D.nx (ρ.set i (some d)) C1) hX hc he (fun S1 ps1 H1 C1 v d e1 c1 o1 h1 => k.nx S1 ps1 H1 C1 _ _ e1 c1 ((he.ext e1).set o1) h1) h
/-- x = [..], x a cell -/
theorem s1_setcc {scope : Scope} {y : Str} {py spos : Pos} (i : Nat) (hN : c.N[i]? = some y) (hy : c.sc.names.lookup y = some .cell) (hk : c.sc.kind = .function) (hf : c.fnm y = true) (h : Ev c (.ListComp elt [⟨tg, iter, ifs, 0⟩] scope pos) ρ C fun d C1 => D.nx (ρ.set i (some d)) C1) :
    S1 c (.Assign [.Name y py] (.ListComp elt [⟨tg, iter, ifs, 0⟩] scope pos) spos) ρ C D := by
  intro X hX S ps σ H hc he E k
  have sw : swapsWith (.ListComp elt [⟨tg, iter, ifs, 0⟩] scope pos) (some (.Name y py)) spos.line X.env = pure false := by
    have hsc := hX.sc
    have ky : X.env.kindOf y = some .cell := by
      show X.env.scope.names.lookup y = _
      rw [hsc]; exact hy
    unfold swapsWith
    simp only [ky]
    have : (some NameKind.cell == some NameKind.local) = false := rfl
    simp only [this, Bool.and_false, Bool.false_and]
  refine ES.of (ps_set (i := i) hX.nd (by rw [hX.N]; exact hN) (by rw [hX.sc]; exact .inr hy) EE.pe sw (.inl (by rw [hX.fn]; exact hf))) ?_
  exact h X hX S ps σ H hc he _ fun S1 ps1 H1 C1 v d e1 c1 o1 h1 => k.nx S1 ps1 H1 C1 _ _ e1 c1 ((he.ext e1).set o1) h1
/-! ### calls of what is built in -/
theorem ev_callB {id : String} (hg : glB c.sc x = true) (hm : c.g.mg x = none) (hv : bootBuiltins x = some (.builtin id)) (hn : okName x = true) (hp : plainArgs (e :: es) = true) (h : Ea c (e :: es) ρ C fun ds C1 => Op c (.f (.builtin id)) ds C1 P) : Ev c (.Call (.Name x p) (e :: es) [] pos) ρ C P := by
  intro X hX S ps σ H hc he Q k
  have hp1 : plainArg e = true ∧ plainArgs es = true := by simpa [plainArgs] using hp
  obtain ⟨n1, n2, n3⟩ := ok_name hn
  refine EE.of (pe_callB (r := fun xs H Q => ∃ r, CallR X (.builtin id) r ∧ r xs H Q) (fun pins s σ H xs us Q I r1 ⟨_, h, q⟩ => h pins s σ H xs us Q I r1 q) (gl_b hX hg) (by rw [hX.mg]; exact hm) hv EAs.pa n3 n1 (plain_arg hp1.1) (plain_back hp1.2 pos)) ?_
  refine h X hX S ps σ H hc he _ fun S1 ps1 H1 C1 vs ds e1 c1 o1 h1 => ?_
  exact h1.run X hX S1 ps1 H1 vs c1 o1 Q (k.ext e1)
theorem ev_callT {T : String} (hg : glB c.sc x = true) (hm : c.g.mg x = none) (hv : bootBuiltins x = some (.type T)) (hn : okName x = true) (hp : plainArgs (e :: es) = true) (h : Ea c (e :: es) ρ C fun ds C1 => Op c (.f (.type T)) ds C1 P) : Ev c (.Call (.Name x p) (e :: es) [] pos) ρ C P := by
  intro X hX S ps σ H hc he Q k
  have hp1 : plainArg e = true ∧ plainArgs es = true := by simpa [plainArgs] using hp
  obtain ⟨n1, n2, n3⟩ := ok_name hn
  refine EE.of (pe_callTy (r := fun xs H Q => ∃ r, CallR X (.type T) r ∧ r xs H Q) (fun pins s σ H xs us Q I r1 ⟨_, h, q⟩ => h pins s σ H xs us Q I r1 q) (gl_b hX hg) (by rw [hX.mg]; exact hm) hv EAs.pa n3 n1 (plain_arg hp1.1) (plain_back hp1.2 pos)) ?_
  refine h X hX S ps σ H hc he _ fun S1 ps1 H1 C1 vs ds e1 c1 o1 h1 => ?_
  exact h1.run X hX S1 ps1 H1 vs c1 o1 Q (k.ext e1)
/-! ### calls of one's own defs -/
abbrev DSpec := List Den → List Cont → (Den → List Cont → Prop) → Prop
def spOf (K : PySem.W.Frag) (ds : DSpec) : Sp := fun vs H Q _ => ∃ (S : Hp) (ps : List Addr) (C : List Cont) (args : List Den), Core K S ps C H ∧ DensOk K S ps vs args ∧
  ds args C fun d C' => ∀ (S' : Hp) (ps' : List Addr) (H' : Hp) (v : V), Ext S ps H S' ps' H' → Core K S' ps' C' H' → DenOk K S' ps' v d → Q v H'
structure FnD (g : Gx) (x : Str) (k : Nat) (ds : DSpec) : Prop where
  ex : ∃ (f : Addr) (fd : FuncData) (ps : List Str), FnG g.P g.w g.K g.mg g.base CX0 k f fd ps (spOf g.K ds) ∧ g.mg x = some (.ref f) ∧ PySem.W.keepIn g.K (.ref f) = true ∧ Binds g.K fd ps []
/-- a def's promise from its body -/
theorem fn_mk {g : Gx} {x qual : Str} {st : Stmt} {f : Addr} {fd : FuncData} {N ps : List Str} {k : Nat} {ds : DSpec} (F : Fun g.K x qual st f fd) (Sc : FnScope N ps (defScope st)) (hx : g.mg x = some (.ref f)) (hb : Binds g.K fd ps [])
    (hl : ∀ args C P, ds args C P → args.length = ps.length)
    (body : ∀ args C P, ds args C P → Ss ⟨g, N, defScope st, fun _ => true, k⟩ (defBody st) (args.map some ++ List.replicate (N.length - args.length) none) C { nx := fun _ C' => P DN C', rt := P }) : FnD g x (k + 1) ds := by
  refine ⟨f, fd, ps, fnG_of F Sc (fun vs H Q E h => ?_) (fun cdv A outer s H vs Q E hgu hr h => ?_), hx, F.kp, hb⟩
  · obtain ⟨S, as, C, args, _, h2, h3⟩ := h
    rw [Paired.len h2]
    exact hl _ _ _ h3
  · obtain ⟨S, as, C, args, hc, h2, h3⟩ := h
    refine ⟨_, (ESs.pss (X := (cxOf CX0 g.P g.w g.K g.mg g.base N qual (defScope st) f cdv A outer s H E).nox)).nox, ?_⟩
    have hlen := Paired.len h2
    refine body args C _ h3 _ ⟨rfl, rfl, rfl, rfl, rfl, rfl, Sc.nd, rfl, rfl, rfl, rfl, hr, hgu⟩ S as (L2.start N vs) H hc ⟨by simp [L2.start, hlen], fun i d q => ?_⟩ _ ⟨?_, ?_, ?_, ?_⟩
    · unfold L2.start
      by_cases hi : i < args.length
      · rw [List.getElem?_append_left (by rw [List.length_map]; exact hi), List.getElem?_map] at q
        cases hd : args[i]? with
        | none => rw [hd] at q; cases q
        | some d' =>
          rw [hd] at q
          cases q
          obtain ⟨v, hv, hdo⟩ := Paired.get h2 hd
          exact ⟨v, by rw [List.getElem?_append_left (by rw [List.length_map, hlen]; exact hi), List.getElem?_map, hv]; rfl, hdo⟩
      · rw [List.getElem?_append_right (by rw [List.length_map]; omega)] at q
        rw [List.getElem?_replicate] at q
        split at q
        · cases q
        · cases q
    · exact fun S' ps' H' C' σ' ρ' e' c' _ p => p S' ps' H' .non e' c' .non
    · exact fun S' ps' H' C' v d e' c' o p => p S' ps' H' v e' c' o
    · exact fun S' ps' H' C' σ' ρ' e' c' _ p => p.elim
    · exact fun S' ps' H' C' σ' ρ' e' c' _ p => p.elim
theorem ev_fn_raw {k : Nat} {ds : DSpec} (F : FnD c.g x k ds) (hk : k ≤ c.kr) (hg : glB c.sc x = true) (hn : okName x = true) (hp : plainArgs (e :: es) = true)
    (h : Ea c (e :: es) ρ C fun args C1 => ∀ X, XOk c X → ∀ (S : Hp) (ps : List Addr) (H : Hp) (vs : List V), Core c.g.K S ps C1 H → DensOk c.g.K S ps vs args → ∀ Q : VK, PostV c.g.K S ps H P Q → spOf c.g.K ds vs H Q E0) : Ev c (.Call (.Name x p) (e :: es) [] pos) ρ C P := by
  intro X hX S ps σ H hc he Q kk
  have hp1 : plainArg e = true ∧ plainArgs es = true := by simpa [plainArgs] using hp
  obtain ⟨n1, n2, n3⟩ := ok_name hn
  obtain ⟨f, fd, as, hF, hm, hkp, hb⟩ := F.ex
  have hF' : FnG X.prog X.w X.K X.mg X.base CX0 k f fd as (spOf c.g.K ds) := by rw [hX.prog, hX.w, hX.K, hX.mg, hX.base]; exact hF
  refine EE.of (pe_callG (E := E0) hF' hX.grd (hX.room.mono hk) (gl_b hX hg) (by rw [hX.mg]; exact hm) (by rw [hX.K]; exact hkp) (by rw [hX.K]; exact hb) pass0 EAs.pa n1 (plain_arg hp1.1) (plain_back hp1.2 pos)) ?_
  refine h X hX S ps σ H hc he _ fun S1 ps1 H1 C1 vs args e1 c1 o1 h1 => ?_
  show spOf c.g.K ds (vs ++ []) H1 Q E0
  rw [List.append_nil]
  exact h1 X hX S1 ps1 H1 vs c1 o1 Q (kk.ext e1)
/-- the callee sees all that is owned -/
theorem ev_fnA {k : Nat} {ds : DSpec} (F : FnD c.g x k ds) (hk : k ≤ c.kr) (hg : glB c.sc x = true) (hn : okName x = true) (hp : plainArgs (e :: es) = true) (h : Ea c (e :: es) ρ C fun args C1 => ds args C1 P) (hmono : ∀ args C (P P' : Den → List Cont → Prop), (∀ d C', P d C' → P' d C') → ds args C P → ds args C P') : Ev c (.Call (.Name x p) (e :: es) [] pos) ρ C P := by
  refine ev_fn_raw F hk hg hn hp fun X hX S ps σ H hc he Q kk => h X hX S ps σ H hc he Q fun S1 ps1 H1 C1 vs args e1 c1 o1 h1 => kk S1 ps1 H1 C1 vs args e1 c1 o1 ?_
  intro Y hY S2 ps2 H2 ws c2 o2 Q2 k2
  exact ⟨S2, ps2, C1, args, c2, o2, hmono _ _ _ _ (fun d C' hp S' ps' H' v e' c' o' => k2 S' ps' H' C' v d e' c' o' hp) h1⟩
/-! other places of what is owned -/
def reD (m : Nat → Nat) : Den → Den
  | .own k => .own (m k)
  | d => d
def reC (m : Nat → Nat) : Cont → Cont
  | .lst xs => .lst (xs.map (reD m))
  | .dki kvs => .dki (kvs.map fun kv => (kv.1, reD m kv.2))
  | .dkt kvs => .dkt (kvs.map fun kv => (kv.1, reD m kv.2))
  | .dead => .dead
def flatD : Den → Bool
  | .own _ => false
  | _ => true
def flatC : Cont → Bool
  | .lst xs => xs.all flatD
  | .dki kvs => kvs.all fun kv => flatD kv.2
  | .dkt kvs => kvs.all fun kv => flatD kv.2
  | .dead => true
section
variable {K : PySem.W.Frag} {S H : Hp} {ps ps' : List Addr}
theorem den_re {m : Nat → Nat} {v : V} {d : Den} (hm : ∀ (j : Nat) (q : Addr), ps[j]? = some q → ps'[m j]? = some q) (h : DenOk K S ps v d) : DenOk K S ps' v (reD m d) := by
  cases d with
  | own k =>
    obtain ⟨p, h1, h2⟩ := h
    exact ⟨p, hm _ _ h1, h2⟩
  | dat d => exact h
  | rdl d => exact h
  | ty n => exact h
theorem Paired.mapR {α β γ : Type} {F : α → β → Prop} {G : α → γ → Prop} {f : β → γ} (hf : ∀ a b, F a b → G a (f b)) : ∀ {l₁ : List α} {l₂ : List β}, Paired F l₁ l₂ → Paired G l₁ (l₂.map f)
  | _, _, .nil => .nil
  | _, _, .cons r t => .cons (hf _ _ r) (Paired.mapR hf t)
theorem cont_re {m : Nat → Nat} {p : Addr} {x : Cont} (hm : ∀ (j : Nat) (q : Addr), ps[j]? = some q → ps'[m j]? = some q) (h : ContOk K S ps H p x) : ContOk K S ps' H p (reC m x) := by
  cases x with
  | lst xs =>
    obtain ⟨vs, h1, h2⟩ := h
    exact ⟨vs, h1, Paired.mapR (fun _ _ r => den_re hm r) h2⟩
  | dki kvs =>
    obtain ⟨vs, h1, h2⟩ := h
    exact ⟨vs, h1, Paired.mapR (fun _ _ r => ⟨r.1, den_re hm r.2⟩) h2⟩
  | dkt kvs =>
    obtain ⟨vs, h1, h2⟩ := h
    exact ⟨vs, h1, Paired.mapR (fun _ _ r => ⟨r.1, den_re hm r.2⟩) h2⟩
  | dead => exact h
theorem den_flat {v : V} {d : Den} (hf : flatD d = true) (h : DenOk K S ps v d) : DenOk K S ps' v d := by
  cases d with
  | own k => cases hf
  | dat d => exact h
  | rdl d => exact h
  | ty n => exact h
theorem Paired.allR {α β : Type} {F G : α → β → Prop} {t : β → Bool} (hf : ∀ a b, t b = true → F a b → G a b) : ∀ {l₁ : List α} {l₂ : List β}, l₂.all t = true → Paired F l₁ l₂ → Paired G l₁ l₂
  | _, _, _, .nil => .nil
  | _, _, h, .cons r tt => by
    rw [List.all_cons, Bool.and_eq_true] at h
    exact .cons (hf _ _ h.1 r) (Paired.allR hf h.2 tt)
theorem cont_flat {p : Addr} {x : Cont} (hf : flatC x = true) (h : ContOk K S ps H p x) : ContOk K S ps' H p x := by
  cases x with
  | lst xs =>
    obtain ⟨vs, h1, h2⟩ := h
    exact ⟨vs, h1, Paired.allR (t := flatD) (fun _ _ t r => den_flat t r) hf h2⟩
  | dki kvs =>
    obtain ⟨vs, h1, h2⟩ := h
    exact ⟨vs, h1, Paired.allR (t := fun (kv : Int × Den) => flatD kv.2) (fun _ _ t r => ⟨r.1, den_flat t r.2⟩) hf h2⟩
  | dkt kvs =>
    obtain ⟨vs, h1, h2⟩ := h
    exact ⟨vs, h1, Paired.allR (t := fun (kv : List Int × Den) => flatD kv.2) (fun _ _ t r => ⟨r.1, den_flat t r.2⟩) hf h2⟩
  | dead => exact h
end
/-- the callee is given nothing that is owned -/
theorem ev_fn0 {k : Nat} {ds : DSpec} (F : FnD c.g x k ds) (hk : k ≤ c.kr) (hg : glB c.sc x = true) (hn : okName x = true) (hp : plainArgs (e :: es) = true)
    (hmono : ∀ args C (P P' : Den → List Cont → Prop), (∀ d C', P d C' → P' d C') → ds args C P → ds args C P')
    (h : Ea c (e :: es) ρ C fun args C1 => args.all flatD = true ∧ ds args [] fun d C' => P (reD (· + C1.length) d) (C1 ++ C'.map (reC (· + C1.length)))) : Ev c (.Call (.Name x p) (e :: es) [] pos) ρ C P := by
  refine ev_fn_raw F hk hg hn hp fun X hX S ps σ H hc he Q kk => h X hX S ps σ H hc he Q fun S1 ps1 H1 C1 vs args e1 c1 o1 ⟨hfl, h1⟩ => kk S1 ps1 H1 C1 vs args e1 c1 o1 ?_
  intro Y hY S2 ps2 H2 ws c2 o2 Q2 k2
  have c0 : Core c.g.K S2 [] [] H2 := ⟨c2.sub, .nil, rfl, fun k p x h => by simp at h, fun k p x h => by simp at h⟩
  refine ⟨S2, [], [], args, c0, Paired.allR (t := flatD) (F := DenOk c.g.K S2 ps2) (G := DenOk c.g.K S2 []) (fun _ _ t r => den_flat t r) hfl o2, hmono _ _ _ _ (fun d C' hp S' ps' H' v e' c' o' => ?_) h1⟩
  obtain ⟨qs, hqs, hfr⟩ := e'.pre
  rw [List.nil_append] at hqs
  subst hqs
  have hm : ∀ (j : Nat) (q : Addr), ps'[j]? = some q → (ps2 ++ ps')[j + C1.length]? = some q := fun j q hq => by
    rw [← c2.len, List.getElem?_append_right (by omega), Nat.add_sub_cancel]
    exact hq
  have ex : Ext S2 ps2 H2 S' (ps2 ++ ps') H' := ⟨e'.ss, ⟨ps', rfl, hfr⟩, fun a o ha _ => e'.keep a o ha (by simp), fun a o ha => by
    rcases e'.fresh a o ha with z | z | z
    · exact .inl z
    · exact .inr (.inl z)
    · simp at z, e'.dom⟩
  have notp : ∀ q ∈ ps', q ∉ ps2 := fun q hq hq2 => by
    obtain ⟨o, ho⟩ := c2.there hq2
    rw [hfr q hq] at ho
    cases ho
  have split : ∀ {i q y}, (ps2 ++ ps')[i]? = some q → (C1 ++ C'.map (reC (· + C1.length)))[i]? = some y → (ps2[i]? = some q ∧ C1[i]? = some y) ∨ ∃ j z, ps'[j]? = some q ∧ C'[j]? = some z ∧ y = reC (· + C1.length) z := fun {i q y} h1 h2 => by
    by_cases hi : i < ps2.length
    · rw [List.getElem?_append_left hi] at h1
      rw [List.getElem?_append_left (by rw [← c2.len]; exact hi)] at h2
      exact .inl ⟨h1, h2⟩
    · rw [List.getElem?_append_right (by omega)] at h1
      rw [List.getElem?_append_right (by rw [← c2.len]; omega), List.getElem?_map, ← c2.len] at h2
      cases hz : C'[i - ps2.length]? with
      | none => rw [hz] at h2; cases h2
      | some z =>
        rw [hz] at h2
        cases h2
        exact .inr ⟨i - ps2.length, z, h1, hz, by rw [← c2.len]⟩
  refine k2 S' (ps2 ++ ps') H' _ v _ ex ⟨c'.sub, ?_, by simp [c2.len, c'.len], fun i q y h1 h2 => ?_, fun i q y h1 h2 hd => ?_⟩ (den_re hm o') hp
  · refine List.nodup_append.mpr ⟨c2.nd, c'.nd, fun a ha b hb z => ?_⟩
    subst z
    exact notp a hb ha
  · rcases split h1 h2 with ⟨g1, g2⟩ | ⟨j, z, g1, g2, rfl⟩
    · refine (c2.cont i q y g1 g2).mono e'.ss ?_
      obtain ⟨o, ho⟩ := c2.there (List.mem_of_getElem? g1)
      rw [ho]
      exact e'.keep q o ho (by simp)
    · exact cont_re hm (c'.cont j q z g1 g2)
  · rcases split h1 h2 with ⟨g1, g2⟩ | ⟨j, z, g1, g2, rfl⟩
    · have hS := c2.apart i q y g1 g2 hd
      obtain ⟨o, ho⟩ := c2.there (List.mem_of_getElem? g1)
      cases hS' : S' q with
      | none => rfl
      | some o' =>
        rcases e'.fresh q o' hS' with z | z | z
        · rw [hS] at z; cases z
        · rw [ho] at z; cases z
        · simp at z
    · exact c'.apart j q z g1 g2 (fun w => hd (by rw [w]; rfl))
/-- from the caller's places to the callee's: the one at i is handed over -/
def toD (i : Nat) : Den → Den
  | .own k => if k = i then .own 0 else .own 1
  | d => d
def onlyD (i : Nat) : Den → Bool
  | .own k => decide (k = i)
  | _ => true
/-- .. and back -/
def frm (i n : Nat) (j : Nat) : Nat := if j = 0 then i else n + (j - 1)
/-- the callee is given the i-th owned object alone -/
theorem ev_fn1 {k : Nat} {ds : DSpec} (i : Nat) (F : FnD c.g x k ds) (hk : k ≤ c.kr) (hg : glB c.sc x = true) (hn : okName x = true) (hp : plainArgs (e :: es) = true)
    (hmono : ∀ args C (P P' : Den → List Cont → Prop), (∀ d C', P d C' → P' d C') → ds args C P → ds args C P')
    (h : Ea c (e :: es) ρ C fun args C1 => ∃ x0, C1[i]? = some x0 ∧ x0 ≠ .dead ∧ flatC x0 = true ∧ args.all (onlyD i) = true ∧ ds (args.map (toD i)) [x0] fun d C' => ∃ x1 r, C' = x1 :: r ∧ P (reD (frm i C1.length) d) (C1.set i (reC (frm i C1.length) x1) ++ r.map (reC (frm i C1.length)))) : Ev c (.Call (.Name x p) (e :: es) [] pos) ρ C P := by
  refine ev_fn_raw F hk hg hn hp fun X hX S ps σ H hc he Q kk => h X hX S ps σ H hc he Q fun S1 ps1 H1 C1 vs args e1 c1 o1 h1 => kk S1 ps1 H1 C1 vs args e1 c1 o1 ?_
  intro Y hY S2 ps2 H2 ws c2 o2 Q2 k2
  obtain ⟨x0, hx0, hnd, hfc, hon, h1⟩ := h1
  have hil : i < ps2.length := by rw [c2.len]; exact (List.getElem?_eq_some_iff.mp hx0).1
  have hpi : ps2[i]? = some ps2[i] := List.getElem?_eq_getElem hil
  generalize hp0 : ps2[i] = p0 at hpi
  have c0 : Core c.g.K S2 [p0] [x0] H2 := by
    refine ⟨c2.sub, by simp, rfl, fun j q y g1 g2 => ?_, fun j q y g1 g2 hd => ?_⟩
    · cases j with
      | zero =>
        cases g1
        cases g2
        exact cont_flat hfc (c2.cont i p0 x0 hpi hx0)
      | succ j => simp at g1
    · cases j with
      | zero =>
        cases g1
        cases g2
        exact c2.apart i p0 x0 hpi hx0 hd
      | succ j => simp at g1
  have o0 : DensOk c.g.K S2 [p0] ws (args.map (toD i)) := by
    refine Paired.mapR (fun v d r => r) (f := toD i) (F := fun v d => DenOk c.g.K S2 [p0] v (toD i d)) (Paired.allR (t := onlyD i) (fun v d t r => ?_) hon o2)
    cases d with
    | own j =>
      have : j = i := by simpa [onlyD] using t
      subst this
      obtain ⟨q, hq, e⟩ := r
      rw [hpi] at hq
      cases hq
      show DenOk c.g.K S2 [p0] v (if j = j then Den.own 0 else Den.own 1)
      rw [if_pos rfl]
      exact ⟨p0, by simp, e⟩
    | dat d => exact r
    | rdl d => exact r
    | ty n => exact r
  refine ⟨S2, [p0], [x0], args.map (toD i), c0, o0, hmono _ _ _ _ (fun d C' hp S' ps' H' v e' c' o' => ?_) h1⟩
  obtain ⟨x1, r, rfl, hp⟩ := hp
  obtain ⟨qs, hqs, hfr⟩ := e'.pre
  subst hqs
  have hn : C1.length = ps2.length := c2.len.symm
  rw [hn] at hp
  have hm : ∀ (j : Nat) (q : Addr), ([p0] ++ qs)[j]? = some q → (ps2 ++ qs)[frm i ps2.length j]? = some q := fun j q hq => by
    unfold frm
    cases j with
    | zero =>
      rw [if_pos rfl, List.getElem?_append_left hil, hpi]
      simpa using hq
    | succ j =>
      rw [if_neg (by omega), List.getElem?_append_right (by omega)]
      have : ps2.length + (j + 1 - 1) - ps2.length = j := by omega
      rw [this]
      simpa using hq
  have mp0 : p0 ∈ ps2 := List.mem_of_getElem? hpi
  have notp : ∀ q ∈ qs, q ∉ ps2 := fun q hq hq2 => by
    obtain ⟨o, ho⟩ := c2.there hq2
    rw [hfr q hq] at ho
    cases ho
  have ex : Ext S2 ps2 H2 S' (ps2 ++ qs) H' := ⟨e'.ss, ⟨qs, rfl, hfr⟩, fun a o ha hn => e'.keep a o ha (fun z => hn (by
    have : a = p0 := by simpa using z
    rw [this]; exact mp0)), fun a o ha => by
    rcases e'.fresh a o ha with z | z | z
    · exact .inl z
    · exact .inr (.inl z)
    · have : a = p0 := by simpa using z
      exact .inr (.inr (by rw [this]; exact mp0)), e'.dom⟩
  have inj : ∀ {j}, ps2[j]? = some p0 → j = i := fun {j} e => by
    obtain ⟨l1, e1⟩ := List.getElem?_eq_some_iff.mp e
    obtain ⟨l2, e2⟩ := List.getElem?_eq_some_iff.mp hpi
    exact (List.getElem_inj c2.nd).mp (e1.trans e2.symm)
  have split : ∀ {j q y}, (ps2 ++ qs)[j]? = some q → (C1.set i (reC (frm i ps2.length) x1) ++ r.map (reC (frm i ps2.length)))[j]? = some y → (j ≠ i ∧ ps2[j]? = some q ∧ C1[j]? = some y) ∨ ∃ l z, ([p0] ++ qs)[l]? = some q ∧ (x1 :: r)[l]? = some z ∧ y = reC (frm i ps2.length) z := fun {j q y} h1 h2 => by
    by_cases hj : j < ps2.length
    · rw [List.getElem?_append_left hj] at h1
      rw [List.getElem?_append_left (by rw [List.length_set, hn]; exact hj)] at h2
      by_cases hji : i = j
      · subst hji
        rw [List.getElem?_set_self (by rw [hn]; exact hj)] at h2
        rw [hpi] at h1
        cases h1
        cases h2
        exact .inr ⟨0, x1, rfl, rfl, rfl⟩
      · rw [List.getElem?_set_ne hji] at h2
        exact .inl ⟨fun z => hji z.symm, h1, h2⟩
    · rw [List.getElem?_append_right (by omega)] at h1
      rw [List.getElem?_append_right (by rw [List.length_set, hn]; omega), List.length_set, hn, List.getElem?_map] at h2
      cases hz : r[j - ps2.length]? with
      | none => rw [hz] at h2; cases h2
      | some z =>
        rw [hz] at h2
        cases h2
        exact .inr ⟨j - ps2.length + 1, z, by simpa using h1, by simpa using hz, rfl⟩
  refine k2 S' (ps2 ++ qs) H' _ v _ ex ⟨c'.sub, ?_, ?_, fun j q y g1 g2 => ?_, fun j q y g1 g2 hd => ?_⟩ (den_re hm o') hp
  · have nq : qs.Nodup := by
      have := c'.nd
      simp only [List.singleton_append, List.nodup_cons] at this
      exact this.2
    refine List.nodup_append.mpr ⟨c2.nd, nq, fun a ha b hb z => ?_⟩
    subst z
    exact notp a hb ha
  · have := c'.len
    simp at this
    simp [hn]
    omega
  · rcases split g1 g2 with ⟨hji, h3, h4⟩ | ⟨l, z, h3, h4, rfl⟩
    · refine (c2.cont j q y h3 h4).mono e'.ss ?_
      obtain ⟨o, ho⟩ := c2.there (List.mem_of_getElem? h3)
      rw [ho]
      exact e'.keep q o ho (fun z => hji (inj (by
        have : q = p0 := by simpa using z
        rw [← this]; exact h3)))
    · exact cont_re hm (c'.cont l q z h3 h4)
  · rcases split g1 g2 with ⟨hji, h3, h4⟩ | ⟨l, z, h3, h4, rfl⟩
    · have hS := c2.apart j q y h3 h4 hd
      obtain ⟨o, ho⟩ := c2.there (List.mem_of_getElem? h3)
      cases hS' : S' q with
      | none => rfl
      | some o' =>
        rcases e'.fresh q o' hS' with z | z | z
        · rw [hS] at z; cases z
        · rw [ho] at z; cases z
        · exact absurd (inj (by
            have : q = p0 := by simpa using z
            rw [← this]; exact h3)) hji
    · exact c'.apart l q z h3 h4 (fun w => hd (by rw [w]; rfl))
end
end DL
/-! DL, fifth part: operations by values -/
namespace DL
open PySem PySem.Spec PyProof.Rows L2
section
variable {c : Cfg} {C : List Cont} {P : Den → List Cont → Prop} {rd : Cx → List V → Hp → VK → Prop} {d1 d2 d3 : Den}
theorem op0_1 (h : ∀ X, XOk c X → ∀ (S : Hp) (ps : List Addr) (H : Hp) (v : V), Core c.g.K S ps C H → DenOk c.g.K S ps v d1 → ∀ Q : VK, PostV c.g.K S ps H P Q → rd X [v] H Q) : Op0 c rd [d1] C P := fun X hX S ps H vs hc hv Q k => by
  cases hv with
  | cons r rr =>
    cases rr
    exact h X hX S ps H _ hc r Q k
theorem op0_2 (h : ∀ X, XOk c X → ∀ (S : Hp) (ps : List Addr) (H : Hp) (v w : V), Core c.g.K S ps C H → DenOk c.g.K S ps v d1 → DenOk c.g.K S ps w d2 → ∀ Q : VK, PostV c.g.K S ps H P Q → rd X [v, w] H Q) : Op0 c rd [d1, d2] C P := fun X hX S ps H vs hc hv Q k => by
  cases hv with
  | cons r rr =>
    cases rr with
    | cons r2 rr =>
      cases rr
      exact h X hX S ps H _ _ hc r r2 Q k
theorem op_1 {r : Rd} (h : ∀ X, XOk c X → ∀ (S : Hp) (ps : List Addr) (H : Hp) (v : V), Core c.g.K S ps C H → DenOk c.g.K S ps v d1 → ∀ Q : VK, PostV c.g.K S ps H P Q → r.fn X [v] H Q) : Op c r [d1] C P := ⟨op0_1 h⟩
theorem op_2 {r : Rd} (h : ∀ X, XOk c X → ∀ (S : Hp) (ps : List Addr) (H : Hp) (v w : V), Core c.g.K S ps C H → DenOk c.g.K S ps v d1 → DenOk c.g.K S ps w d2 → ∀ Q : VK, PostV c.g.K S ps H P Q → r.fn X [v, w] H Q) : Op c r [d1, d2] C P := ⟨op0_2 h⟩
/-! ### whole numbers -/
theorem o_int {f : Value → Value → Sem Value} {g : Int → Int → Int} {Cn : Int → Int → Prop} (hr : ∀ X : Cx, OpR X f (rI Cn fun i j => .int (g i j))) {i j : Int} (hc : Cn i j) (h : P (DI (g i j)) C) : Op0 c (bR f) [DI i, DI j] C P :=
  op0_2 fun X hX S ps H v w hcr r1 r2 Q k => by
    cases r1
    cases r2
    exact ⟨_, _, rfl, _, hr X, i, j, rfl, rfl, hc, k S ps H C _ (DI (g i j)) .refl hcr (Rp.int _) h⟩
theorem o_int0 {f : Value → Value → Sem Value} {g : Int → Int → Int} (hr : ∀ X : Cx, OpR X f (rI0 fun i j => .int (g i j))) {i j : Int} (h : P (DI (g i j)) C) : Op0 c (bR f) [DI i, DI j] C P :=
  op0_2 fun X hX S ps H v w hcr r1 r2 Q k => by
    cases r1
    cases r2
    exact ⟨_, _, rfl, _, hr X, i, j, rfl, rfl, k S ps H C _ (DI (g i j)) .refl hcr (Rp.int _) h⟩
theorem o_bool0 {f : Value → Value → Sem Value} {g : Int → Int → Bool} (hr : ∀ X : Cx, OpR X f (rI0 fun i j => .bl (g i j))) {i j : Int} (h : P (DB (g i j)) C) : Op0 c (bR f) [DI i, DI j] C P :=
  op0_2 fun X hX S ps H v w hcr r1 r2 Q k => by
    cases r1
    cases r2
    exact ⟨_, _, rfl, _, hr X, i, j, rfl, rfl, k S ps H C _ (DB (g i j)) .refl hcr (Rp.bl _) h⟩
theorem o_add {i j : Int} (h : P (DI (i + j)) C) : Op c (.b .Add) [DI i, DI j] C P := ⟨o_int0 (fun X => op_add) h⟩
theorem o_sub {i j : Int} (h : P (DI (i - j)) C) : Op c (.b .Sub) [DI i, DI j] C P := ⟨o_int0 (fun X => op_sub) h⟩
/-- a product: one side small, or both together not too great -/
def MulOk (i j : Int) : Prop := CMul i j ∨ CMulW i j
theorem MulOk.l {i j : Int} (h1 : -(2 ^ 64) < i) (h2 : i < 2 ^ 64) : MulOk i j := .inl (.inl ⟨h1, h2⟩)
theorem MulOk.r {i j : Int} (h1 : -(2 ^ 64) < j) (h2 : j < 2 ^ 64) : MulOk i j := .inl (.inr ⟨h1, h2⟩)
theorem MulOk.w {i j : Int} {a b : Nat} (ha : i.natAbs < 2 ^ a) (hb : j.natAbs < 2 ^ b) (h0 : 0 < a) (h1 : 0 < b) (h : a + b ≤ 1000000) : MulOk i j := .inr (wide_mul ha hb h0 h1 h)
theorem o_mul {i j : Int} (hm : MulOk i j) (h : P (DI (i * j)) C) : Op c (.b .Mult) [DI i, DI j] C P := by
  rcases hm with hm | hm
  · exact ⟨o_int (fun X => op_mul) hm h⟩
  · exact ⟨o_int (fun X => op_mulW) hm h⟩
theorem o_div {i j : Int} (hj : 0 < j) (hb : j.natAbs.log2 < 9000) (h : P (DI (i / j)) C) : Op c (.b .FloorDiv) [DI i, DI j] C P := ⟨o_int (fun X => op_fdivW) ⟨hj, hb⟩ h⟩
theorem o_mod {i j : Int} (hj : 0 < j) (h : P (DI (i % j)) C) : Op c (.b .Mod) [DI i, DI j] C P := ⟨o_int (fun X => op_mod) hj h⟩
theorem o_pow {i j : Int} (hj : 0 ≤ j) (hj2 : j ≤ 1000000) (hi : i.natAbs < 2 ^ 64) (h : P (DI (i ^ j.toNat)) C) : Op c (.b .Pow) [DI i, DI j] C P := ⟨o_int (fun X => op_pow) ⟨hj, hj2, hi⟩ h⟩
theorem o_lt {i j : Int} (h : P (DB (decide (i < j))) C) : Op c (.c .Lt) [DI i, DI j] C P := ⟨o_bool0 (fun X => op_lt) h⟩
theorem o_le {i j : Int} (h : P (DB (decide (i ≤ j))) C) : Op c (.c .LtE) [DI i, DI j] C P := ⟨o_bool0 (fun X => op_le) h⟩
theorem o_gt {i j : Int} (h : P (DB (decide (j < i))) C) : Op c (.c .Gt) [DI i, DI j] C P := ⟨o_bool0 (fun X => op_gt) h⟩
theorem o_ge {i j : Int} (h : P (DB (decide (j ≤ i))) C) : Op c (.c .GtE) [DI i, DI j] C P := ⟨o_bool0 (fun X => op_ge) h⟩
theorem o_neg {i : Int} (h : P (DI (-i)) C) : Op c (.u .USub) [DI i] C P := op_1 fun X hX S ps H v hc r Q k => by
  cases r
  exact ⟨_, _, rfl, un_neg, i, rfl, k S ps H C _ (DI (-i)) .refl hc (Rp.int _) h⟩
theorem o_scal {f : Value → Value → Sem Value} {g : V → V → Bool} (hr : ∀ X : Cx, OpR X f fun x y H Q => scal x y = true ∧ Q (.bl (g x y)) H) {i j : Int} (h : P (DB (g (.int i) (.int j))) C) : Op0 c (bR f) [DI i, DI j] C P :=
  op0_2 fun X hX S ps H v w hc r1 r2 Q k => by
    cases r1
    cases r2
    exact ⟨_, _, rfl, _, hr X, rfl, k S ps H C _ (DB _) .refl hc (Rp.bl _) h⟩
theorem o_eqI {i j : Int} (h : P (DB (decide (i = j))) C) : Op c (.c .Eq) [DI i, DI j] C P := by
  refine ⟨o_scal (g := fun x y => decide (x = y)) (fun X => op_eq) ?_⟩
  have e : decide (V.int i = V.int j) = decide (i = j) := by
    by_cases hij : i = j
    · subst hij; simp
    · rw [decide_eq_false hij, decide_eq_false fun z => hij (V.int.inj z)]
  show P (DB (decide (V.int i = V.int j))) C
  rw [e]
  exact h
theorem o_neI {i j : Int} (h : P (DB (!decide (i = j))) C) : Op c (.c .NotEq) [DI i, DI j] C P := by
  refine ⟨o_scal (g := fun x y => !decide (x = y)) (fun X => op_ne) ?_⟩
  have e : decide (V.int i = V.int j) = decide (i = j) := by
    by_cases hij : i = j
    · subst hij; simp
    · rw [decide_eq_false hij, decide_eq_false fun z => hij (V.int.inj z)]
  show P (DB (!decide (V.int i = V.int j))) C
  rw [e]
  exact h
/-- in-place, whole numbers -/
theorem i_add {i j : Int} (h : P (DI (i + j)) C) : Op c (.i .Add) [DI i, DI j] C P := op_2 fun X hX S ps H v w hc r1 r2 Q k => by
  cases r1
  cases r2
  exact ⟨_, _, _, rfl, ip_add, i, j, rfl, rfl, k S ps H C _ (DI _) .refl hc (Rp.int _) h⟩
theorem i_sub {i j : Int} (h : P (DI (i - j)) C) : Op c (.i .Sub) [DI i, DI j] C P := op_2 fun X hX S ps H v w hc r1 r2 Q k => by
  cases r1
  cases r2
  exact ⟨_, _, _, rfl, ip_sub, i, j, rfl, rfl, k S ps H C _ (DI _) .refl hc (Rp.int _) h⟩
/-! ### None -/
theorem o_isN {d : PyData} (h : P (DB (match d with | .none => true | _ => false)) C) : Op c (.c .Is) [.dat d, DN] C P := op_2 fun X hX S ps H v w hc r1 r2 Q k => by
  cases r2
  have r1 : Rp c.g.K S v d := r1
  refine ⟨_, _, rfl, _, op_isN, rfl, ?_⟩
  refine k S ps H C _ (DB _) .refl hc ?_ h
  cases r1 <;> exact Rp.bl _
theorem o_notN {d : PyData} (h : P (DB (match d with | .none => false | _ => true)) C) : Op c (.c .IsNot) [.dat d, DN] C P := op_2 fun X hX S ps H v w hc r1 r2 Q k => by
  cases r2
  have r1 : Rp c.g.K S v d := r1
  refine ⟨_, _, rfl, _, op_notN, rfl, ?_⟩
  refine k S ps H C _ (DB _) .refl hc ?_ h
  cases r1 <;> exact Rp.bl _
/-! ### as data -/
inductive IsPy (C : List Cont) : Den → PyData → Prop
  | dat (d : PyData) : IsPy C (.dat d) d
  | own {k : Nat} {ds : List PyData} (h : C[k]? = some (.lst (ds.map .dat))) : IsPy C (.own k) (.list ds)
  | rdl (ds : List PyData) : IsPy C (.rdl ds) (.list ds)
theorem Core.dp {K : PySem.W.Frag} {S H : Hp} {ps : List Addr} {v : V} {d : Den} {p : PyData} (hc : Core K S ps C H) (h : DenOk K S ps v d) (hp : IsPy C d p) : Dp K H v p := by
  cases hp with
  | dat => exact Rp.dp _ v (Rp.mono hc.sub _ v h)
  | own hk =>
    obtain ⟨q, h1, rfl⟩ := h
    obtain ⟨vs, e1, e2⟩ := hc.cont _ q _ h1 hk
    exact .lst (SqL.of e1) (RpAll.dp _ _ (RpAll.mono hc.sub _ _ (DensOk.rpAll e2)))
  | rdl ds =>
    obtain ⟨a, vs, rfl, h2, h3⟩ := h
    exact .lst (hc.sub.seq h2) (RpAll.dp _ _ (RpAll.mono hc.sub _ _ h3))
theorem XOk.units {X : Cx} (hX : XOk c X) : X.A.units + 200 < cLine := by
  have := hX.room.un
  omega
theorem o_eq {p1 p2 : PyData} (h1 : IsPy C d1 p1) (h2 : IsPy C d2 p2) (s1 : SeqAt.shaped p1 = true) (s2 : SeqAt.shaped p2 = true) (h : P (DB (PyData.eqv p1 p2)) C) : Op c (.c .Eq) [d1, d2] C P := op_2 fun X hX S ps H v w hc r1 r2 Q k =>
  ⟨_, _, rfl, _, op_eqD (by have := hX.units; omega), p1, p2, by rw [hX.K]; exact hc.dp r1 h1, by rw [hX.K]; exact hc.dp r2 h2, s1, s2, k S ps H C _ (DB _) .refl hc (Rp.bl _) h⟩
theorem o_ne {p1 p2 : PyData} (h1 : IsPy C d1 p1) (h2 : IsPy C d2 p2) (s1 : SeqAt.shaped p1 = true) (s2 : SeqAt.shaped p2 = true) (h : P (DB (!PyData.eqv p1 p2)) C) : Op c (.c .NotEq) [d1, d2] C P := op_2 fun X hX S ps H v w hc r1 r2 Q k =>
  ⟨_, _, rfl, _, op_neD (by have := hX.units; omega), p1, p2, by rw [hX.K]; exact hc.dp r1 h1, by rw [hX.K]; exact hc.dp r2 h2, s1, s2, k S ps H C _ (DB _) .refl hc (Rp.bl _) h⟩
/-! ### lengths, sums -/
theorem c_len {xs : List Den} (hx : items C d1 = some xs) (h : P (DI (xs.length : Int)) C) : Op c (.f (.builtin "len")) [d1] C P := op_1 fun X hX S ps H v hc r Q k => by
  obtain ⟨a, vs, rfl, h1, h2⟩ := hc.seq r hx
  have hl := Paired.len h2
  refine ⟨_, call_len_seq, a, vs, rfl, by rw [hX.K]; exact h1, ?_⟩
  rw [hl]
  exact k S ps H C _ (DI _) .refl hc (Rp.int _) h
theorem dens_ints {K : PySem.W.Frag} {S : Hp} {ps : List Addr} : ∀ {ns : List Int} {vs : List V}, DensOk K S ps vs (ns.map DI) → vs = ns.map V.int
  | [], _, h => by cases h; rfl
  | n :: ns, _, h => by
    cases h with
    | cons r t =>
      cases r
      rw [List.map_cons, ← dens_ints t]
theorem ints_dens {K : PySem.W.Frag} {S : Hp} {ps : List Addr} : ∀ (ns : List Int), DensOk K S ps (ns.map V.int) (ns.map DI)
  | [] => .nil
  | n :: ns => .cons (Rp.int n) (ints_dens ns)
theorem cr_sumT {X : Cx} (hc : X.calm = true) : CallR X (.builtin "sum") (fun vs H Q => ∃ (a : Addr) (ns : List Int), vs = [V.ref a] ∧ SqT X.K H a (ns.map V.int) ∧ Q (.int ns.sum) H) := by
  intro pins s σ H vs us Q I r h
  obtain ⟨a, ns, rfl, hs, q⟩ := h
  obtain ⟨its, rv, hl, _⟩ := I.tuple hs
  rw [Vals.ref1 r]
  obtain ⟨xs, e⟩ := rv.ints.allInts.items
  have hn : numsOf (intItems xs).toList = ns := by rw [← e]; exact rv.ints.numsOf
  rw [nums_intItems] at hn
  rw [e] at hl
  refine PySem.W.ktm_sumG (I.ok.hd hc) hl fun h' tk t' hk => ⟨.int _, H, I.kept hk, ⟨_, rfl⟩, ?_⟩
  have es : preSum (numAt xs) xs.size = ns.sum := by
    rw [← hn]
    rw [preSum_eq, List.take_of_length_le (by simp)]
  rw [es]
  exact q
theorem c_sum {ns : List Int} (hx : items C d1 = some (ns.map DI)) (h : P (DI ns.sum) C) : Op c (.f (.builtin "sum")) [d1] C P := op_1 fun X hX S ps H v hc r Q k => by
  obtain ⟨a, vs, rfl, h1, h2⟩ := hc.seq r hx
  have e := dens_ints h2
  subst e
  have fin : Q (.int ns.sum) H := k S ps H C _ (DI _) .refl hc (Rp.int _) h
  rcases h1 with h1 | h1
  · exact ⟨_, cr_sum hX.calm, a, ns, rfl, by rw [hX.K]; exact h1, fin⟩
  · exact ⟨_, cr_sumT hX.calm, a, ns, rfl, by rw [hX.K]; exact h1, fin⟩
theorem c_min2 {i j : Int} (h : P (DI (if j < i then j else i)) C) : Op c (.f (.builtin "min")) [DI i, DI j] C P := op_2 fun X hX S ps H v w hc r1 r2 Q k => by
  cases r1
  cases r2
  exact ⟨_, call_min2 hX.calm, i, j, rfl, k S ps H C _ (DI _) .refl hc (Rp.int _) h⟩
theorem c_max2 {i j : Int} (h : P (DI (if j > i then j else i)) C) : Op c (.f (.builtin "max")) [DI i, DI j] C P := op_2 fun X hX S ps H v w hc r1 r2 Q k => by
  cases r1
  cases r2
  exact ⟨_, call_max2 hX.calm, i, j, rfl, k S ps H C _ (DI _) .refl hc (Rp.int _) h⟩
theorem c_abs {i : Int} (h : P (DI (if i < 0 then -i else i)) C) : Op c (.f (.builtin "abs")) [DI i] C P := op_1 fun X hX S ps H v hc r Q k => by
  cases r
  exact ⟨_, call_abs, i, rfl, k S ps H C _ (DI _) .refl hc (Rp.int _) h⟩
theorem c_intB {b : Bool} (h : P (DI (if b then 1 else 0)) C) : Op c (.f (.type "int")) [DB b] C P := op_1 fun X hX S ps H v hc r Q k => by
  cases r
  exact ⟨_, call_int1, .inr ⟨b, rfl, k S ps H C _ (DI _) .refl hc (Rp.int _) h⟩⟩
theorem c_intI {i : Int} (h : P (DI i) C) : Op c (.f (.type "int")) [DI i] C P := op_1 fun X hX S ps H v hc r Q k => by
  cases r
  exact ⟨_, call_int1, .inl ⟨i, rfl, k S ps H C _ (DI _) .refl hc (Rp.int _) h⟩⟩
theorem c_intS {x : Str} {n : Int} (hx : PySem.intText? x = some n) (hl : x.length ≤ 640) (h : P (DI n) C) : Op c (.f (.type "int")) [DS x] C P := op_1 fun X hX S ps H v hc r Q k => by
  cases r
  exact ⟨_, call_int_str, x, n, rfl, hx, hl, k S ps H C _ (DI _) .refl hc (Rp.int _) h⟩
theorem dens_bools {K : PySem.W.Frag} {S : Hp} {ps : List Addr} : ∀ {bs : List Bool} {vs : List V}, DensOk K S ps vs (bs.map DB) → vs = bs.map V.bl
  | [], _, h => by cases h; rfl
  | n :: ns, _, h => by
    cases h with
    | cons r t =>
      cases r
      rw [List.map_cons, ← dens_bools t]
theorem c_all {bs : List Bool} {k : Nat} (hx : C[k]? = some (.lst (bs.map DB))) (h : P (DB (bs.all id)) C) : Op c (.f (.builtin "all")) [.own k] C P := op_1 fun X hX S ps H v hc r Q kk => by
  obtain ⟨q, h1, rfl⟩ := r
  obtain ⟨vs, e1, e2⟩ := hc.cont _ q _ h1 hx
  have e := dens_bools e2
  subst e
  exact ⟨_, cr_all hX.calm, q, bs, rfl, by rw [hX.K]; exact SqL.of e1, kk S ps H C _ (DB _) .refl hc (Rp.bl _) h⟩
theorem c_any {bs : List Bool} {k : Nat} (hx : C[k]? = some (.lst (bs.map DB))) (h : P (DB (bs.any id)) C) : Op c (.f (.builtin "any")) [.own k] C P := op_1 fun X hX S ps H v hc r Q kk => by
  obtain ⟨q, h1, rfl⟩ := r
  obtain ⟨vs, e1, e2⟩ := hc.cont _ q _ h1 hx
  have e := dens_bools e2
  subst e
  exact ⟨_, cr_any hX.calm, q, bs, rfl, by rw [hX.K]; exact SqL.of e1, kk S ps H C _ (DB _) .refl hc (Rp.bl _) h⟩
/-! ### tuple(..), list(..) -/
theorem c_tuple {ds : List PyData} (ht : isT d1 = false) (hx : items C d1 = some (ds.map .dat)) (h : P (DTu ds) C) : Op c (.f (.type "tuple")) [d1] C P := op_1 fun X hX S ps H v hc r Q k => by
  obtain ⟨a, vs, rfl, h1, h2⟩ := hc.seqX r hx
  rw [ht] at h1
  refine ⟨_, call_tuple_of, a, vs, rfl, .inl ⟨by rw [hX.K]; exact h1, fun l hl => ?_⟩⟩
  obtain ⟨c2, e2⟩ := hc.laid (o := .tup vs) hl
  exact k _ _ _ _ _ (DTu ds) e2 c2 (Rp.tup (SqT.of upd_same) (RpAll.mono e2.ss _ _ (DensOk.rpAll h2))) h
theorem c_tupleT {ds : List PyData} (h : P (DTu ds) C) : Op c (.f (.type "tuple")) [DTu ds] C P := op_1 fun X hX S ps H v hc r Q k => by
  have r' : Rp c.g.K S v (.tuple ds) := r
  cases r' with
  | @tup a vs _ h1 h2 => exact ⟨_, call_tuple_of, a, vs, rfl, .inr ⟨by rw [hX.K]; exact same_seqT hc.sub h1, k S ps H C _ (DTu ds) .refl hc r h⟩⟩
theorem c_list {xs : List Den} (hx : items C d1 = some xs) (h : P (.own C.length) (C ++ [.lst xs])) : Op c (.f (.type "list")) [d1] C P := op_1 fun X hX S ps H v hc r Q k => by
  obtain ⟨a, vs, rfl, h1, h2⟩ := hc.seq r hx
  refine ⟨_, call_list_of, a, vs, rfl, by rw [hX.K]; exact h1, fun l hl => ?_⟩
  obtain ⟨c2, e2⟩ := hc.owned (x := .lst xs) (o := .lst vs) hl ⟨vs, upd_same, h2⟩
  exact k _ _ _ _ _ (.own C.length) e2 c2 ⟨l, by rw [← hc.len]; simp, rfl⟩ h
/-! ### items -/
theorem x_seq {xs : List Den} {i : Int} {d : Den} (hx : items C d1 = some xs) (hi : atI xs i = some d) (h : P d C) : Op c .x [d1, DI i] C P := op_2 fun X hX S ps H v w hc r1 r2 Q k => by
  cases r2
  obtain ⟨a, vs, rfl, h1, h2⟩ := hc.seq r1 hx
  have hl := Paired.len h2
  unfold atI at hi
  cases hj : ixN xs.length i with
  | none => rw [hj] at hi; cases hi
  | some j =>
    rw [hj] at hi
    obtain ⟨z, hz, hd⟩ := Paired.get h2 hi
    have hat : atI vs i = some z := by
      unfold atI
      rw [hl, hj]
      exact hz
    have fin : Q z H := k S ps H C z d .refl hc hd h
    rcases h1 with h1 | h1
    · exact ⟨_, _, _, rfl, ix_list, a, vs, i, z, rfl, rfl, by rw [hX.K]; exact h1, hat, fin⟩
    · exact ⟨_, _, _, rfl, ix_tup, a, vs, i, z, rfl, rfl, by rw [hX.K]; exact h1, hat, fin⟩
/-! ### lists and tuples put together -/
/-- a list that stands there as it is -/
theorem Core.lst {K : PySem.W.Frag} {S H : Hp} {ps : List Addr} {v : V} {d : Den} {xs : List Den} (hc : Core K S ps C H) (h : DenOk K S ps v d) (ht : isT d = false) (hr : ∀ ds, d ≠ .rdl ds) (hx : items C d = some xs) : ∃ a vs, v = .ref a ∧ H a = some (.lst vs) ∧ DensOk K S ps vs xs := by
  cases d with
  | dat d =>
    cases d with
    | list ds =>
      cases hx
      have h : Rp K S v (.list ds) := h
      cases h with
      | lst h1 h2 => exact ⟨_, _, rfl, hc.sub _ _ h1, h2.dens⟩
    | tuple ds => cases ht
    | _ => cases hx
  | own k =>
    obtain ⟨p, h1, h2⟩ := h
    simp only [items] at hx
    split at hx
    · rename_i ys hC
      cases hx
      obtain ⟨vs, e1, e2⟩ := hc.cont k p _ h1 hC
      exact ⟨p, vs, h2, e1, e2⟩
    · cases hx
  | rdl ds => exact absurd rfl (hr ds)
  | ty n => cases hx
/-- a den that is a list of its own -/
def isL : Den → Bool
  | .dat (.list _) => true
  | .own _ => true
  | _ => false
theorem Core.lst' {K : PySem.W.Frag} {S H : Hp} {ps : List Addr} {v : V} {d : Den} {xs : List Den} (hc : Core K S ps C H) (h : DenOk K S ps v d) (hl : isL d = true) (hx : items C d = some xs) : ∃ a vs, v = .ref a ∧ H a = some (.lst vs) ∧ DensOk K S ps vs xs := by
  refine hc.lst h ?_ ?_ hx
  · cases d with
    | dat d => cases d <;> first | rfl | cases hl
    | _ => rfl
  · intro ds z
    subst z
    cases hl
theorem o_cat {xs ys : List Den} (l1 : isL d1 = true) (l2 : isL d2 = true) (hx : items C d1 = some xs) (hy : items C d2 = some ys) (hz : xs.length + ys.length ≤ 1000000) (h : P (.own C.length) (C ++ [.lst (xs ++ ys)])) : Op c (.b .Add) [d1, d2] C P := op_2 fun X hX S ps H v w hc r1 r2 Q k => by
  obtain ⟨a, vs, rfl, h1, h2⟩ := hc.lst' r1 l1 hx
  obtain ⟨b, ws, rfl, h3, h4⟩ := hc.lst' r2 l2 hy
  refine ⟨_, _, rfl, _, op_cat, a, b, vs, ws, rfl, rfl, h1, h3, ?_, fun p hp => ?_⟩
  · rw [Paired.len h2, Paired.len h4]
    exact Nat.le_trans hz (by decide)
  · obtain ⟨c2, e2⟩ := hc.owned (x := .lst (xs ++ ys)) (o := .lst (vs ++ ws)) hp ⟨_, upd_same, Paired.app h2 h4⟩
    exact k _ _ _ _ _ (.own C.length) e2 c2 ⟨p, by rw [← hc.len]; simp, rfl⟩ h
theorem Paired.rep {α β : Type} {F : α → β → Prop} {l₁ : List α} {l₂ : List β} (h : Paired F l₁ l₂) : ∀ n, Paired F (List.replicate n l₁).flatten (List.replicate n l₂).flatten
  | 0 => .nil
  | n + 1 => by
    rw [List.replicate_succ, List.replicate_succ, List.flatten_cons, List.flatten_cons]
    exact Paired.app h (Paired.rep h n)
theorem o_rep {xs : List Den} {n : Int} (l1 : isL d1 = true) (hx : items C d1 = some xs) (h1 : -(2 ^ 63) ≤ n) (h2 : n < 2 ^ 63) (hz : xs.length * n.toNat ≤ 1000000) (h : P (.own C.length) (C ++ [.lst (List.replicate n.toNat xs).flatten])) : Op c (.b .Mult) [d1, DI n] C P := op_2 fun X hX S ps H v w hc r1 r2 Q k => by
  cases r2
  obtain ⟨a, vs, rfl, g1, g2⟩ := hc.lst' r1 l1 hx
  refine ⟨_, _, rfl, _, op_rep, a, n, vs, rfl, rfl, g1, h1, h2, ?_, fun p hp => ?_⟩
  · rw [Paired.len g2]
    exact Nat.le_trans hz (by decide)
  · obtain ⟨c2, e2⟩ := hc.owned (x := .lst (List.replicate n.toNat xs).flatten) (o := .lst (List.replicate n.toNat vs).flatten) hp ⟨_, upd_same, Paired.rep g2 _⟩
    exact k _ _ _ _ _ (.own C.length) e2 c2 ⟨p, by rw [← hc.len]; simp, rfl⟩ h
theorem rep_one {α : Type} (x : α) : ∀ n, (List.replicate n [x]).flatten = List.replicate n x
  | 0 => rfl
  | n + 1 => by rw [List.replicate_succ, List.flatten_cons, rep_one x n, List.replicate_succ]; rfl
/-- tuples -/
theorem o_catT {xs ys : List PyData} (hz : xs.length + ys.length ≤ 1000000) (h : P (DTu (xs ++ ys)) C) : Op c (.b .Add) [DTu xs, DTu ys] C P := op_2 fun X hX S ps H v w hc r1 r2 Q k => by
  have q1 : Rp c.g.K S v (.tuple xs) := r1
  have q2 : Rp c.g.K S w (.tuple ys) := r2
  cases q1 with
  | @tup a vs _ a1 a2 =>
    cases q2 with
    | @tup b ws _ b1 b2 =>
      have l1 : vs.length = xs.length := by have := Paired.len (RpAll.dens (ps := ps) a2); rw [List.length_map] at this; exact this
      have l2 : ws.length = ys.length := by have := Paired.len (RpAll.dens (ps := ps) b2); rw [List.length_map] at this; exact this
      refine ⟨_, _, rfl, _, op_catA, a, b, vs, ws, rfl, rfl, by rw [hX.K]; exact same_seqT hc.sub a1, by rw [hX.K]; exact same_seqT hc.sub b1, ?_, fun e => ?_, fun e1 e2 => ?_, fun e1 e2 p hp => ?_⟩
      · rw [l1, l2]
        exact Nat.le_trans hz (by decide)
      · have : xs = [] := List.eq_nil_of_length_eq_zero (by rw [← l1, e]; rfl)
        subst this
        exact k S ps H C _ (DTu ([] ++ ys)) .refl hc (Rp.tup b1 b2) h
      · have : ys = [] := List.eq_nil_of_length_eq_zero (by rw [← l2, e2]; rfl)
        subst this
        exact k S ps H C _ (DTu (xs ++ [])) .refl hc (by rw [List.append_nil]; exact Rp.tup a1 a2) h
      · obtain ⟨c2, e3⟩ := hc.laid (o := .tup (vs ++ ws)) hp
        refine k _ _ _ _ _ (DTu (xs ++ ys)) e3 c2 (Rp.tup (SqT.of upd_same) (RpAll.mono e3.ss _ _ (DensOk.rpAll (ps := ps) ?_))) h
        rw [List.map_append]
        exact Paired.app a2.dens b2.dens
theorem o_repT {xs : List PyData} {n : Int} (hne : xs ≠ []) (h1 : 2 ≤ n) (h2 : n ≤ 1000) (hz : xs.length ≤ 1000) (h : P (DTu (List.replicate n.toNat xs).flatten) C) : Op c (.b .Mult) [DTu xs, DI n] C P := op_2 fun X hX S ps H v w hc r1 r2 Q k => by
  cases r2
  have q1 : Rp c.g.K S v (.tuple xs) := r1
  cases q1 with
  | @tup a vs _ a1 a2 =>
    have l1 : vs.length = xs.length := by have := Paired.len (RpAll.dens (ps := ps) a2); rw [List.length_map] at this; exact this
    refine ⟨_, _, rfl, _, op_repT, a, n, vs, rfl, rfl, by rw [hX.K]; exact same_seqT hc.sub a1, fun e => hne (List.eq_nil_of_length_eq_zero (by rw [← l1, e]; rfl)), h1, h2, by rw [l1]; exact hz, fun p hp => ?_⟩
    obtain ⟨c2, e3⟩ := hc.laid (o := .tup (List.replicate n.toNat vs).flatten) hp
    refine k _ _ _ _ _ (DTu (List.replicate n.toNat xs).flatten) e3 c2 (Rp.tup (SqT.of upd_same) (RpAll.mono e3.ss _ _ (DensOk.rpAll (ps := ps) ?_))) h
    rw [List.map_flatten, List.map_replicate]
    exact Paired.rep a2.dens _
/-! ### texts -/
theorem o_catS {x y : Str} (hz : x.length + y.length ≤ 1000000) (h : P (DS (x ++ y)) C) : Op c (.b .Add) [DS x, DS y] C P := op_2 fun X hX S ps H v w hc r1 r2 Q k => by
  cases r1
  cases r2
  exact ⟨_, _, rfl, _, op_add_str, x, y, rfl, rfl, Nat.le_trans hz (by decide), k S ps H C _ (DS _) .refl hc (Rp.str _) h⟩
def rRepS : R2 := fun x y H Q => ∃ (z : Str) (n : Int), x = .str z ∧ y = .int n ∧ 2 ≤ n ∧ z.length * n.toNat ≤ 1000000 ∧ n ≤ 1000000 ∧ z.length ≠ 0 ∧ Q (.str ⟨(List.replicate n.toNat z.cps).foldl (· ++ ·) #[]⟩) H
theorem op_repS {X : Cx} : OpR X (binaryOp .Mult) rRepS := by
  intro pins s σ H x y v u Q I rx ry h
  obtain ⟨z, n, rfl, rfl, h2, hz, hn, h0, q⟩ := h
  obtain ⟨t, rfl⟩ := rx
  obtain ⟨t', rfl⟩ := ry
  have e1 : ¬ n < 1 := by omega
  have e2 : (n == 1 || z.length == 0) = false := by
    rw [Bool.or_eq_false_iff]
    exact ⟨beq_eq_false_iff_ne.mpr (by omega), beq_eq_false_iff_ne.mpr h0⟩
  refine PySem.P.mul_str ?_ (fun _ _ => ?_) (fun _ _ => ?_) ?_
  · rw [decide_eq_false (by omega), decide_eq_false (by omega)] <;> rfl
  · have : (z.length : Int) ≤ 1000000 := by
      have : z.length * 1 ≤ z.length * n.toNat := Nat.mul_le_mul_left _ (by omega)
      omega
    have hd : (1000000 : Int) ≤ (2 ^ 63 - 1) / n := by
      refine Int.le_ediv_of_mul_le (by omega) ?_
      have : (1000000 : Int) * n ≤ 1000000 * 1000000 := Int.mul_le_mul_of_nonneg_left hn (by decide)
      omega
    omega
  · unfold Builtin.Str.tooLong
    exact decide_eq_false (Nat.not_lt.mpr (Nat.le_trans hz (by decide)))
  · rw [if_neg e1, e2, if_neg Bool.false_ne_true]
    refine ⟨?_, ⟨.str _, H, I.tok _, ⟨_, rfl⟩, q⟩⟩
    show ((List.replicate n.toNat z.cps).foldl (· ++ ·) #[]).size ≤ sizeLine
    have key : ∀ (m : Nat) (acc : Array Nat), ((List.replicate m z.cps).foldl (· ++ ·) acc).size = acc.size + z.length * m := by
      intro m
      induction m with
      | zero => intro acc; simp
      | succ m ih =>
        intro acc
        rw [List.replicate_succ, List.foldl_cons, ih, Array.size_append, Nat.mul_succ]
        show acc.size + z.cps.size + z.cps.size * m = acc.size + (z.cps.size * m + z.cps.size)
        omega
    rw [key]
    show 0 + z.length * n.toNat ≤ _
    rw [Nat.zero_add]
    exact Nat.le_trans hz (by decide)
theorem o_repS {x : Str} {n : Int} (h2 : 2 ≤ n) (hz : x.length * n.toNat ≤ 1000000) (hn : n ≤ 1000000) (h0 : x.length ≠ 0) (h : P (DS ⟨(List.replicate n.toNat x.cps).foldl (· ++ ·) #[]⟩) C) : Op c (.b .Mult) [DS x, DI n] C P := op_2 fun X hX S ps H v w hc r1 r2 Q k => by
  cases r1
  cases r2
  exact ⟨_, _, rfl, _, op_repS, x, n, rfl, rfl, h2, hz, hn, h0, k S ps H C _ (DS _) .refl hc (Rp.str _) h⟩
/-! ### x in .. -/
def eqD : PyData → PyData → Bool
  | .none, .none => true
  | .bool a, .bool b => a == b
  | .int a, .int b => a == b
  | .str a, .str b => decide (a = b)
  | _, _ => false
theorem inV_ints (i : Int) (ns : List Int) : inV (.int i) (ns.map V.int) = decide (i ∈ ns) := by
  unfold inV
  induction ns with
  | nil => simp
  | cons n ns ih =>
    rw [List.map_cons, List.any_cons, ih]
    simp only [eqV, List.mem_cons]
    by_cases h : n = i
    · subst h; simp
    · have h' : ¬ i = n := fun z => h z.symm
      simp [h, h']
theorem flat_ints (ns : List Int) : (ns.map V.int).all flatV = true := by
  induction ns with
  | nil => rfl
  | cons n ns ih => rw [List.map_cons, List.all_cons, ih]; rfl
theorem o_inI {i : Int} {ns : List Int} (hx : items C d2 = some (ns.map DI)) (h : P (DB (decide (i ∈ ns))) C) : Op c (.c .In) [DI i, d2] C P := op_2 fun X hX S ps H v w hc r1 r2 Q k => by
  cases r1
  obtain ⟨a, vs, rfl, h1, h2⟩ := hc.seq r2 hx
  have e := dens_ints h2
  subst e
  refine ⟨_, _, rfl, _, op_in_seq, a, _, rfl, by rw [hX.K]; exact h1, rfl, flat_ints ns, ?_⟩
  rw [if_neg Bool.false_ne_true, inV_ints]
  exact k S ps H C _ (DB _) .refl hc (Rp.bl _) h
/-! ### isinstance -/
def tyName (C : List Cont) : Den → Option String
  | .dat .none => some "NoneType"
  | .dat (.bool _) => some "bool"
  | .dat (.int _) => some "int"
  | .dat (.str _) => some "str"
  | .dat (.list _) => some "list"
  | .dat (.tuple _) => some "tuple"
  | .own k => match C[k]? with
    | some (.lst _) => some "list"
    | _ => none
  | _ => none
theorem Core.ty {K : PySem.W.Frag} {S H : Hp} {ps : List Addr} {v : V} {d : Den} {n : String} (hc : Core K S ps C H) (h : DenOk K S ps v d) (hn : tyName C d = some n) : TyX K H v (.type n) := by
  cases d with
  | dat d =>
    have h : Rp K S v d := h
    cases h with
    | non => cases hn; exact .base .non
    | bl b => cases hn; exact .base (.bl b)
    | int b => cases hn; exact .base (.int b)
    | str b => cases hn; exact .base (.str b)
    | lst h1 h2 => cases hn; exact .base (.lst (hc.sub _ _ h1))
    | tup h1 h2 =>
      cases hn
      rcases same_seqT hc.sub h1 with (q | ⟨o, q⟩) | ⟨o, its, m, hk, hcl, _⟩
      · exact .base (.tup q)
      · exact .fTuple q
      · exact .kTuple hk hcl
  | own k =>
    obtain ⟨p, h1, rfl⟩ := h
    simp only [tyName] at hn
    split at hn
    · rename_i ys hC
      cases hn
      obtain ⟨vs, e1, e2⟩ := hc.cont k p _ h1 hC
      exact .base (.lst e1)
    · cases hn
  | rdl ds => cases hn
  | ty m => cases hn
theorem c_isi {n m : String} {b : Bool} (hn : tyName C d1 = some n) (hk : kitB n m = some b) (h : P (DB b) C) : Op c (.f (.builtin "isinstance")) [d1, .ty m] C P := op_2 fun X hX S ps H v w hc r1 r2 Q k => by
  have r2 : w = .ty m := r2
  subst r2
  exact ⟨_, call_isi, _, _, .type n, .type m, b, rfl, .ty m, by rw [hX.K]; exact hc.ty r1 hn, kit_ty hk, k S ps H C _ (DB _) .refl hc (Rp.bl _) h⟩
/-- a built-in type's name -/
theorem ev_ty {ρ : DEnv} {x : Str} {T : String} {pos : Pos} (hg : glB c.sc x = true) (hm : c.g.mg x = none) (hv : bootBuiltins x = some (.type T)) (hn : okName x = true) (h : P (.ty T) C) : Ev c (.Name x pos) ρ C P := by
  intro X hX S ps σ H hc he Q k
  obtain ⟨n1, n2, n3⟩ := ok_name hn
  exact EE.of (pe_bltn (v := .ty T) (gl_b hX hg) (by rw [hX.mg]; exact hm) hv rfl n3 n1) (k S ps H C _ (.ty T) .refl hc rfl h)
/-! ### repr -/
def rRepr (K : PySem.W.Frag) : List V → Hp → VK → Prop := fun xs H Q => ∃ (a : Addr) (d : PyData), xs = [.ref a] ∧ Dp K H (.ref a) d ∧ d.showable = true ∧ d.hasDict = false ∧ d.depth ≤ 64 ∧ d.shown.length ≤ sizeLine ∧ Q (.str d.shown) H
theorem call_repr {X : Cx} (hg : X.A.guards = some []) (hu : X.A.units + 100 < cLine) : CallR X (.builtin "repr") (rRepr X.K) := by
  intro pins s σ H xs us Q I r h
  obtain ⟨a, d, rfl, hd, h1, h2, h3, h4, q⟩ := h
  rw [Vals.ref1 r]
  obtain ⟨as, rd⟩ := Dp.reads I d (.ref a) (.ref a) hd rfl
  exact repr_of_reads' rd h1 (PyData.noDict_hsm h2) hg (by omega) (fun b o e => e) (fun h' u tk hk => ⟨.str _, H, I.kept hk, ⟨_, rfl⟩, q⟩) h4
theorem ints_show {ns : List Int} (hb : ∀ n ∈ ns, n.natAbs < 2 ^ 1900) : PyData.showableAll (intl ns) = true ∧ PyData.hasDictAll (intl ns) = false ∧ PyData.depthAll (intl ns) = 0 ∧ PyData.leavesShortAll 2000 (intl ns) = true ∧ PyData.bulkAll (intl ns) = ns.length := by
  induction ns with
  | nil => exact ⟨rfl, rfl, rfl, rfl, rfl⟩
  | cons n ns ih =>
    obtain ⟨i1, i2, i3, i4, i5⟩ := ih fun m hm => hb m (List.mem_cons_of_mem _ hm)
    have hn := hb n List.mem_cons_self
    have hlog : n.natAbs.log2 < 1920 := Nat.lt_of_lt_of_le (PySem.Flt.log2_lt_of (by decide) hn) (by decide)
    refine ⟨?_, ?_, ?_, ?_, ?_⟩
    · show PyData.showableAll (.int n :: intl ns) = true
      rw [PyData.showableAll, i1, Bool.and_true]
      exact decide_eq_true hlog
    · show PyData.hasDictAll (.int n :: intl ns) = false
      rw [PyData.hasDictAll, i2]
      rfl
    · show PyData.depthAll (.int n :: intl ns) = 0
      rw [PyData.depthAll, i3]
      rfl
    · show PyData.leavesShortAll 2000 (.int n :: intl ns) = true
      rw [PyData.leavesShortAll, i4, Bool.and_true]
      refine decide_eq_true ?_
      show (Str.ofString (toString n)).length ≤ 2000
      have e : (Str.ofString (toString n)).length = (toString n).length := by
        rw [PySem.Str.ofString_eq_toList]
        simp only [PySem.Str.length, List.size_toArray, List.length_map]
        first | rfl | exact String.length_toList | simp
      rw [e]
      exact Nat.le_trans (int_text_length_le (by decide) hlog) (by decide)
    · show PyData.bulkAll (.int n :: intl ns) = ns.length + 1
      rw [PyData.bulkAll, i5]
      show 0 + 1 + ns.length = ns.length + 1
      omega
theorem ints_fit {ns : List Int} (hl : ns.length ≤ 2000) (hb : ∀ n ∈ ns, n.natAbs < 2 ^ 1900) : (PyData.tuple (intl ns)).shown.length ≤ sizeLine ∧ (PyData.list (intl ns)).shown.length ≤ sizeLine := by
  obtain ⟨i1, i2, i3, i4, i5⟩ := ints_show hb
  have big : (sizeLine : Nat) = 16777216 := by decide
  constructor
  · have h := PyData.shown_le_bulk 2000 (by decide) (.tuple (intl ns)) (by rw [PyData.leavesShort]; exact i4)
    rw [PyData.bulk, i5] at h
    omega
  · have h := PyData.shown_le_bulk 2000 (by decide) (.list (intl ns)) (by rw [PyData.leavesShort]; exact i4)
    rw [PyData.bulk, i5] at h
    omega
theorem c_repr {ns : List Int} (hl : ns.length ≤ 2000) (hb : ∀ n ∈ ns, n.natAbs < 2 ^ 1900) (h : P (DS (PyData.tuple (intl ns)).shown) C) : Op c (.f (.builtin "repr")) [DTu (intl ns)] C P := op_1 fun X hX S ps H v hc r Q k => by
  have hd := hc.dp r (.dat _)
  have r : Rp c.g.K S v (.tuple (intl ns)) := r
  cases r with
  | @tup a vs _ h1 h2 =>
    obtain ⟨i1, i2, i3, i4, i5⟩ := ints_show hb
    refine ⟨_, call_repr hX.grd (by have := hX.units; omega), a, _, rfl, by rw [hX.K]; exact hd, by rw [PyData.showable]; exact i1, by rw [PyData.hasDict]; exact i2, ?_, (ints_fit hl hb).1, k S ps H C _ (DS _) .refl hc (Rp.str _) h⟩
    rw [PyData.depth, i3]
    decide
end
end DL
/-! DL, sixth part: what is owned is given up; methods of lists; slices -/
namespace DL
open PySem PySem.Spec PyProof.Rows L2
/-! ### what is owned from n on stands still, or is given up -/
mutual
inductive Deep (n : Nat) (C : List Cont) : Den → PyData → Prop
  | dat (d : PyData) : Deep n C (.dat d) d
  | lst {k : Nat} {xs : List Den} {ds : List PyData} : n ≤ k → C[k]? = some (.lst xs) → DeepAll n C xs ds → Deep n C (.own k) (.list ds)
inductive DeepAll (n : Nat) (C : List Cont) : List Den → List PyData → Prop
  | nil : DeepAll n C [] []
  | cons {x : Den} {xs : List Den} {d : PyData} {ds : List PyData} : Deep n C x d → DeepAll n C xs ds → DeepAll n C (x :: xs) (d :: ds)
end
theorem DeepAll.dats {n : Nat} {C : List Cont} : ∀ ds : List PyData, DeepAll n C (ds.map .dat) ds
  | [] => .nil
  | d :: ds => .cons (.dat d) (DeepAll.dats ds)
/-- nothing of it stands at n or beyond -/
def okD (n : Nat) : Den → Bool
  | .own k => decide (k < n)
  | _ => true
def FrzD (n : Nat) (C : List Cont) (d d' : Den) : Prop := (d' = d ∧ okD n d = true) ∨ ∃ pd, Deep n C d pd ∧ d' = .dat pd
inductive FrzC (n : Nat) (C : List Cont) : Cont → Cont → Prop
  | lst {xs ys : List Den} : Paired (FrzD n C) xs ys → FrzC n C (.lst xs) (.lst ys)
  | dki {xs ys : List (Int × Den)} : Paired (fun (a b : Int × Den) => b.1 = a.1 ∧ FrzD n C a.2 b.2) xs ys → FrzC n C (.dki xs) (.dki ys)
  | dkt {xs ys : List (List Int × Den)} : Paired (fun (a b : List Int × Den) => b.1 = a.1 ∧ FrzD n C a.2 b.2) xs ys → FrzC n C (.dkt xs) (.dkt ys)
  | dead (x : Cont) : FrzC n C x .dead
/-- from C only the first n are kept, as C' tells them -/
def Trim (n : Nat) (C C' : List Cont) : Prop := n ≤ C.length ∧ Paired (FrzC n C) (C.take n) C'
def okC (n : Nat) : Cont → Bool
  | .lst xs => xs.all (okD n)
  | .dki kvs => kvs.all fun kv => okD n kv.2
  | .dkt kvs => kvs.all fun kv => okD n kv.2
  | .dead => true
theorem paired_all {α : Type} {F : α → α → Prop} {t : α → Bool} (f : ∀ a, t a = true → F a a) : ∀ {l : List α}, l.all t = true → Paired F l l
  | [], _ => .nil
  | a :: l, h => by
    rw [List.all_cons, Bool.and_eq_true] at h
    exact .cons (f a h.1) (paired_all f h.2)
theorem FrzC.same {n : Nat} {C : List Cont} {x : Cont} (h : okC n x = true) : FrzC n C x x := by
  cases x with
  | lst xs => exact .lst (paired_all (t := okD n) (fun a h => .inl ⟨rfl, h⟩) h)
  | dki kvs => exact .dki (paired_all (t := fun (kv : Int × Den) => okD n kv.2) (fun a h => ⟨rfl, .inl ⟨rfl, h⟩⟩) h)
  | dkt kvs => exact .dkt (paired_all (t := fun (kv : List Int × Den) => okD n kv.2) (fun a h => ⟨rfl, .inl ⟨rfl, h⟩⟩) h)
  | dead => exact .dead _
theorem Trim.same {C0 r : List Cont} (h : C0.all (okC C0.length) = true) : Trim C0.length (C0 ++ r) C0 := by
  refine ⟨by simp, ?_⟩
  rw [List.take_left]
  exact paired_all (fun _ => FrzC.same) h
theorem Trim.at {n : Nat} {C C' : List Cont} (hn : n ≤ C.length) (he : C.take n = C') (h : C'.all (okC n) = true) : Trim n C C' := ⟨hn, by rw [he]; exact paired_all (fun _ => FrzC.same) h⟩
section
variable {K : PySem.W.Frag} {S S0 H H0 : Hp} {ps ps0 : List Addr} {C C' : List Cont} {n : Nat}
open Classical in
noncomputable def still (n : Nat) (S : Hp) (ps : List Addr) (H : Hp) : Hp := fun a => if a ∈ ps.drop n then H a else S a
theorem still_in {a : Addr} (h : a ∈ ps.drop n) : still n S ps H a = H a := if_pos h
theorem still_out {a : Addr} (h : a ∉ ps.drop n) : still n S ps H a = S a := if_neg h
theorem Core.still (hc : Core K S ps C H) : Same S (DL.still n S ps H) ∧ Same (DL.still n S ps H) H := by
  constructor
  · intro a o h
    by_cases m : a ∈ ps.drop n
    · rw [still_in m]; exact hc.sub a o h
    · rw [still_out m]; exact h
  · intro a o h
    by_cases m : a ∈ ps.drop n
    · rw [still_in m] at h; exact h
    · rw [still_out m] at h; exact hc.sub a o h
theorem drop_at {k : Nat} {p : Addr} (hk : n ≤ k) (hp : ps[k]? = some p) : p ∈ ps.drop n := by
  have : (ps.drop n)[k - n]? = some p := by
    rw [List.getElem?_drop]
    have : n + (k - n) = k := by omega
    rw [this]; exact hp
  exact List.mem_of_getElem? this
mutual
theorem deep_rp (hc : Core K S ps C H) : ∀ {d : Den} {pd : PyData} {v : V}, Deep n C d pd → DenOk K S ps v d → Rp K (still n S ps H) v pd
  | _, _, v, .dat d, h => Rp.mono hc.still.1 d v h
  | _, _, v, .lst (k := k) hk hC hr, h => by
    obtain ⟨p, hp, rfl⟩ := h
    obtain ⟨vs, e1, e2⟩ := hc.cont k p _ hp hC
    exact .lst (by rw [still_in (drop_at hk hp)]; exact e1) (deep_rpAll hc hr e2)
theorem deep_rpAll (hc : Core K S ps C H) : ∀ {xs : List Den} {ds : List PyData} {vs : List V}, DeepAll n C xs ds → DensOk K S ps vs xs → RpAll K (still n S ps H) vs ds
  | _, _, _, .nil, h => by cases h; exact .nil
  | _, _, _, .cons h1 h2, h => by
    cases h with
    | cons r t => exact .cons (deep_rp hc h1 r) (deep_rpAll hc h2 t)
end
theorem frz_den (hc : Core K S ps C H) {d d' : Den} {v : V} (f : FrzD n C d d') (h : DenOk K S ps v d) : DenOk K (still n S ps H) (ps.take n) v d' := by
  rcases f with ⟨rfl, ho⟩ | ⟨pd, hd, rfl⟩
  · cases d' with
    | own k =>
      obtain ⟨p, hp, e⟩ := h
      refine ⟨p, ?_, e⟩
      rw [List.getElem?_take_of_lt (of_decide_eq_true ho)]
      exact hp
    | dat d => exact Rp.mono hc.still.1 d v h
    | rdl ds =>
      obtain ⟨a, vs, h1, h2, h3⟩ := h
      exact ⟨a, vs, h1, hc.still.1.seq h2, RpAll.mono hc.still.1 ds vs h3⟩
    | ty n => exact h
  · exact deep_rp hc hd h
theorem paired_comp {α β γ : Type} {F : α → β → Prop} {G : β → γ → Prop} {R : α → γ → Prop} (f : ∀ a b c, F a b → G b c → R a c) : ∀ {l1 : List α} {l2 : List β} {l3 : List γ}, Paired F l1 l2 → Paired G l2 l3 → Paired R l1 l3
  | _, _, _, .nil, h => by cases h; exact .nil
  | _, _, _, .cons r t, h => by
    cases h with
    | cons q u => exact .cons (f _ _ _ r q) (paired_comp f t u)
theorem frz_cont (hc : Core K S ps C H) {x x' : Cont} {p : Addr} (f : FrzC n C x x') (h : ContOk K S ps H p x) : ContOk K (still n S ps H) (ps.take n) H p x' := by
  cases f with
  | lst q =>
    obtain ⟨vs, h1, h2⟩ := h
    exact ⟨vs, h1, paired_comp (F := DenOk K S ps) (G := FrzD n C) (R := DenOk K (DL.still n S ps H) (ps.take n)) (fun a b c r s => frz_den hc s r) h2 q⟩
  | dki q =>
    obtain ⟨vs, h1, h2⟩ := h
    exact ⟨vs, h1, paired_comp (F := fun (a : Key × V) (b : Int × Den) => a.1 = Sum.inl b.1 ∧ DenOk K S ps a.2 b.2) (G := fun (a b : Int × Den) => b.1 = a.1 ∧ FrzD n C a.2 b.2) (R := fun (a : Key × V) (b : Int × Den) => a.1 = Sum.inl b.1 ∧ DenOk K (DL.still n S ps H) (ps.take n) a.2 b.2) (fun a b c r s => ⟨by rw [s.1]; exact r.1, frz_den hc s.2 r.2⟩) h2 q⟩
  | dkt q =>
    obtain ⟨vs, h1, h2⟩ := h
    exact ⟨vs, h1, paired_comp (F := fun (a : List Key × V) (b : List Int × Den) => a.1 = b.1.map Sum.inl ∧ DenOk K S ps a.2 b.2) (G := fun (a b : List Int × Den) => b.1 = a.1 ∧ FrzD n C a.2 b.2) (R := fun (a : List Key × V) (b : List Int × Den) => a.1 = b.1.map Sum.inl ∧ DenOk K (DL.still n S ps H) (ps.take n) a.2 b.2) (fun a b c r s => ⟨by rw [s.1]; exact r.1, frz_den hc s.2 r.2⟩) h2 q⟩
  | dead x =>
    obtain ⟨o, e⟩ := h.there
    show H p ≠ none
    rw [e]
    exact fun z => nomatch z
theorem nodup_split (h : ps.Nodup) {a : Addr} (h1 : a ∈ ps.take n) (h2 : a ∈ ps.drop n) : False := by
  rw [← List.take_append_drop n ps] at h
  exact (List.nodup_append.mp h).2.2 a h1 a h2 rfl
theorem trim_core (hc : Core K S ps C H) (t : Trim n C C') : Core K (still n S ps H) (ps.take n) C' H := by
  have hl := Paired.len t.2
  rw [List.length_take, Nat.min_eq_left t.1] at hl
  have hn : n ≤ ps.length := by rw [hc.len]; exact t.1
  refine ⟨hc.still.2, hc.nd.sublist (List.take_sublist n ps), by rw [List.length_take, Nat.min_eq_left hn]; exact hl, fun k p c hp hC => ?_, fun k p c hp hC hd => ?_⟩
  · have hk : k < n := by
      have := (List.getElem?_eq_some_iff.mp hp).1
      rw [List.length_take] at this
      omega
    obtain ⟨x, hx, f⟩ := Paired.get t.2 hC
    rw [List.getElem?_take_of_lt hk] at hx hp
    exact frz_cont hc f (hc.cont k p x hp hx)
  · have hk : k < n := by
      have := (List.getElem?_eq_some_iff.mp hp).1
      rw [List.length_take] at this
      omega
    obtain ⟨x, hx, f⟩ := Paired.get t.2 hC
    have hm := List.mem_of_getElem? hp
    rw [List.getElem?_take_of_lt hk] at hx hp
    rw [still_out fun z => nodup_split hc.nd hm z]
    refine hc.apart k p x hp hx fun z => ?_
    subst z
    cases f
    exact hd rfl
theorem trim_ext (hn : ps0.length ≤ n) (hc : Core K S ps C H) (e : Ext S0 ps0 H0 S ps H) : Ext S0 ps0 H0 (still n S ps H) (ps.take n) H := by
  obtain ⟨qs, hq, hf⟩ := e.pre
  have hd : ∀ a ∈ ps.drop n, a ∈ qs := fun a ha => by
    rw [hq, List.drop_append] at ha
    rcases List.mem_append.mp ha with h | h
    · rw [List.drop_eq_nil_of_le hn] at h
      cases h
    · exact List.mem_of_mem_drop h
  refine ⟨e.ss.trans hc.still.1, ⟨qs.take (n - ps0.length), ?_, fun q h => hf q (List.mem_of_mem_take h)⟩, e.keep, fun a o h => ?_, e.dom⟩
  · rw [hq, List.take_append, List.take_of_length_le hn]
  · by_cases m : a ∈ ps.drop n
    · exact .inr (.inl (hf a (hd a m)))
    · rw [still_out m] at h
      exact e.fresh a o h
end
/-- what is kept may also be the first m and one more -/
theorem den_upto {K : PySem.W.Frag} {S : Hp} {ps ps' : List Addr} {m : Nat} {v : V} {d : Den} (hm : ∀ j, j < m → ps'[j]? = ps[j]?) (ho : okD m d = true) (h : DenOk K S ps v d) : DenOk K S ps' v d := by
  cases d with
  | own k =>
    obtain ⟨p, h1, h2⟩ := h
    exact ⟨p, by rw [hm k (of_decide_eq_true ho)]; exact h1, h2⟩
  | dat d => exact h
  | rdl d => exact h
  | ty n => exact h
theorem cont_upto {K : PySem.W.Frag} {S H : Hp} {ps ps' : List Addr} {m : Nat} {p : Addr} {x : Cont} (hm : ∀ j, j < m → ps'[j]? = ps[j]?) (ho : okC m x = true) (h : ContOk K S ps H p x) : ContOk K S ps' H p x := by
  cases x with
  | lst xs =>
    obtain ⟨vs, h1, h2⟩ := h
    exact ⟨vs, h1, Paired.allR (t := okD m) (fun _ _ t r => den_upto hm t r) ho h2⟩
  | dki kvs =>
    obtain ⟨vs, h1, h2⟩ := h
    exact ⟨vs, h1, Paired.allR (t := fun (kv : Int × Den) => okD m kv.2) (fun _ _ t r => ⟨r.1, den_upto hm t r.2⟩) ho h2⟩
  | dkt kvs =>
    obtain ⟨vs, h1, h2⟩ := h
    exact ⟨vs, h1, Paired.allR (t := fun (kv : List Int × Den) => okD m kv.2) (fun _ _ t r => ⟨r.1, den_upto hm t r.2⟩) ho h2⟩
  | dead => exact h
theorem pick_core {K : PySem.W.Frag} {S H : Hp} {ps : List Addr} {C : List Cont} {m k : Nat} {x : Cont} {p : Addr} (hc : Core K S ps C H) (hk : m ≤ k) (hx : C[k]? = some x) (hp : ps[k]? = some p) (h1 : (C.take m).all (okC m) = true) (h2 : okC m x = true) : Core K S (ps.take m ++ [p]) (C.take m ++ [x]) H := by
  have hkl := (List.getElem?_eq_some_iff.mp hp).1
  have hlt : (ps.take m).length = m := by rw [List.length_take]; omega
  have hlc : (C.take m).length = m := by rw [List.length_take, ← hc.len]; omega
  have hm : ∀ j, j < m → (ps.take m ++ [p])[j]? = ps[j]? := fun j hj => by
    rw [List.getElem?_append_left (by rw [hlt]; exact hj), List.getElem?_take_of_lt hj]
  have split : ∀ {j q y}, (ps.take m ++ [p])[j]? = some q → (C.take m ++ [x])[j]? = some y → (j < m ∧ ps[j]? = some q ∧ C[j]? = some y) ∨ (j = m ∧ q = p ∧ y = x) := fun {j q y} e1 e2 => by
    by_cases hj : j < m
    · rw [hm j hj] at e1
      rw [List.getElem?_append_left (by rw [hlc]; exact hj), List.getElem?_take_of_lt hj] at e2
      exact .inl ⟨hj, e1, e2⟩
    · have hl := (List.getElem?_eq_some_iff.mp e1).1
      rw [List.length_append, hlt, List.length_singleton] at hl
      have : j = m := by omega
      subst this
      rw [List.getElem?_append_right (by rw [hlt]; exact Nat.le_refl _), hlt, Nat.sub_self] at e1
      rw [List.getElem?_append_right (by rw [hlc]; exact Nat.le_refl _), hlc, Nat.sub_self] at e2
      exact .inr ⟨rfl, (Option.some.inj e1).symm, (Option.some.inj e2).symm⟩
  refine ⟨hc.sub, List.nodup_append.mpr ⟨hc.nd.sublist (List.take_sublist m ps), by simp, fun a ha b hb z => ?_⟩, by rw [List.length_append, List.length_append, hlt, hlc]; rfl, fun j q y e1 e2 => ?_, fun j q y e1 e2 hd => ?_⟩
  · have hb' : b = p := by simpa using hb
    subst hb'
    subst z
    exact nodup_split (n := m) hc.nd ha (drop_at hk hp)
  · rcases split e1 e2 with ⟨hj, g1, g2⟩ | ⟨_, rfl, rfl⟩
    · refine cont_upto hm ?_ (hc.cont j q y g1 g2)
      refine List.all_eq_true.mp h1 y ?_
      have : (C.take m)[j]? = some y := by rw [List.getElem?_take_of_lt hj]; exact g2
      exact List.mem_of_getElem? this
    · exact cont_upto hm h2 (hc.cont k _ _ hp hx)
  · rcases split e1 e2 with ⟨hj, g1, g2⟩ | ⟨_, rfl, rfl⟩
    · exact hc.apart j q y g1 g2 hd
    · exact hc.apart k _ _ hp hx hd
theorem pick_ext {S S0 H H0 : Hp} {ps ps0 : List Addr} {m k : Nat} {p : Addr} (hm : ps0.length ≤ m) (hk : m ≤ k) (hp : ps[k]? = some p) (e : Ext S0 ps0 H0 S ps H) : Ext S0 ps0 H0 S (ps.take m ++ [p]) H := by
  obtain ⟨qs, hq, hf⟩ := e.pre
  refine ⟨e.ss, ⟨qs.take (m - ps0.length) ++ [p], ?_, fun q h => ?_⟩, e.keep, e.fresh, e.dom⟩
  · rw [hq, List.take_append, List.take_of_length_le hm, List.append_assoc]
  · rcases List.mem_append.mp h with h | h
    · exact hf q (List.mem_of_mem_take h)
    · have : q = p := by simpa using h
      subst this
      rw [hq, List.getElem?_append_right (by omega)] at hp
      exact hf q (List.mem_of_getElem? hp)
/-! ### the rules -/
/-- slots and what is owned, given up -/
def TrimE (n : Nat) (ρ : DEnv) (C : List Cont) (ρ' : DEnv) (C' : List Cont) : Prop :=
  Trim n C C' ∧ ρ'.length = ρ.length ∧ ∀ (i : Nat) (d' : Den), ρ'[i]? = some (some d') → ∃ d, ρ[i]? = some (some d) ∧ FrzD n C d d'
theorem frz_env {K : PySem.W.Frag} {S H : Hp} {ps : List Addr} {C C' : List Cont} {n : Nat} {σ : L2.St} {ρ ρ' : DEnv} (hc : Core K S ps C H) (t : TrimE n ρ C ρ' C') (h : EnvOk K S ps σ ρ) : EnvOk K (still n S ps H) (ps.take n) σ ρ' :=
  ⟨t.2.1.trans h.len, fun i d' q => by
    obtain ⟨d, h1, f⟩ := t.2.2 i d' q
    obtain ⟨v, g1, g2⟩ := h.get i d h1
    exact ⟨v, g1, frz_den hc f g2⟩⟩
section
variable {c : Cfg} {ρ : DEnv} {C : List Cont} {P : Den → List Cont → Prop} {PB : Bool → List Cont → Prop} {a b e x y : Expr} {es : List Expr} {pos : Pos} {st : Stmt} {sts : List Stmt} {D : DEnds}
theorem Ev.trim (h : Ev c e ρ C fun d C1 => ∃ n d' C', C.length ≤ n ∧ Trim n C1 C' ∧ FrzD n C1 d d' ∧ P d' C') : Ev c e ρ C P := fun X hX S ps σ H hc he Q k =>
  h X hX S ps σ H hc he Q fun S1 ps1 H1 C1 v d e1 c1 o1 ⟨n, d', C', hn, ht, hf, hp⟩ =>
    k _ _ H1 C' v d' (trim_ext (by rw [hc.len]; exact hn) c1 e1) (trim_core c1 ht) (frz_den c1 hf o1) hp
theorem Et.trim (h : Et c e ρ C fun d C1 => ∃ n C', C.length ≤ n ∧ Trim n C1 C' ∧ PB d C') : Et c e ρ C PB := fun X hX S ps σ H hc he Q k =>
  h X hX S ps σ H hc he Q fun S1 ps1 H1 C1 d e1 c1 ⟨n, C', hn, ht, hp⟩ =>
    k _ _ H1 C' d (trim_ext (by rw [hc.len]; exact hn) c1 e1) (trim_core c1 ht) hp
/-- the ends of a block, before what is owned is given up -/
def DEnds.trim (m : Nat) (D : DEnds) : DEnds where
  nx := fun ρ1 C1 => ∃ n ρ' C', m ≤ n ∧ TrimE n ρ1 C1 ρ' C' ∧ D.nx ρ' C'
  rt := fun d C1 => (∃ n d' C', m ≤ n ∧ Trim n C1 C' ∧ FrzD n C1 d d' ∧ D.rt d' C') ∨ ∃ n k x, m ≤ n ∧ n ≤ k ∧ d = .own k ∧ C1[k]? = some x ∧ (C1.take n).all (okC n) = true ∧ okC n x = true ∧ D.rt (.own n) (C1.take n ++ [x])
  bk := fun ρ1 C1 => ∃ n ρ' C', m ≤ n ∧ TrimE n ρ1 C1 ρ' C' ∧ D.bk ρ' C'
  ct := fun ρ1 C1 => ∃ n ρ' C', m ≤ n ∧ TrimE n ρ1 C1 ρ' C' ∧ D.ct ρ' C'
theorem ends_trim {K : PySem.W.Frag} {S H : Hp} {ps : List Addr} {E : Ends} (hc : Core K S ps C H) (k : EndsOk K S ps H D E) : EndsOk K S ps H (D.trim C.length) E where
  nx := fun S1 ps1 H1 C1 σ1 ρ1 e1 c1 en1 ⟨n, ρ', C', hn, ht, hp⟩ => k.nx _ _ H1 C' σ1 ρ' (trim_ext (by rw [hc.len]; exact hn) c1 e1) (trim_core c1 ht.1) (frz_env c1 ht en1) hp
  rt := fun S1 ps1 H1 C1 v d e1 c1 o1 h => by
    rcases h with ⟨n, d', C', hn, ht, hf, hp⟩ | ⟨n, j, x, hn, hj, rfl, hx, g1, g2, hp⟩
    · exact k.rt _ _ H1 C' v d' (trim_ext (by rw [hc.len]; exact hn) c1 e1) (trim_core c1 ht) (frz_den c1 hf o1) hp
    · obtain ⟨p, hp1, rfl⟩ := o1
      have hl := (List.getElem?_eq_some_iff.mp hp1).1
      refine k.rt _ _ H1 _ _ (.own n) (pick_ext (by rw [hc.len]; exact hn) hj hp1 e1) (pick_core c1 hj hx hp1 g1 g2) ⟨p, ?_, rfl⟩ hp
      rw [List.getElem?_append_right (by rw [List.length_take]; omega), List.length_take, Nat.min_eq_left (by omega), Nat.sub_self]
      rfl
  bk := fun S1 ps1 H1 C1 σ1 ρ1 e1 c1 en1 ⟨n, ρ', C', hn, ht, hp⟩ => k.bk _ _ H1 C' σ1 ρ' (trim_ext (by rw [hc.len]; exact hn) c1 e1) (trim_core c1 ht.1) (frz_env c1 ht en1) hp
  ct := fun S1 ps1 H1 C1 σ1 ρ1 e1 c1 en1 ⟨n, ρ', C', hn, ht, hp⟩ => k.ct _ _ H1 C' σ1 ρ' (trim_ext (by rw [hc.len]; exact hn) c1 e1) (trim_core c1 ht.1) (frz_env c1 ht en1) hp
theorem S1.trim (h : S1 c st ρ C (D.trim C.length)) : S1 c st ρ C D := fun X hX S ps σ H hc he E k => h X hX S ps σ H hc he E (ends_trim hc k)
theorem Ss.trim (h : Ss c sts ρ C (D.trim C.length)) : Ss c sts ρ C D := fun X hX S ps σ H hc he E k => h X hX S ps σ H hc he E (ends_trim hc k)
/-! ### methods of lists -/
theorem own_ty {X : Cx} {S H : Hp} {ps : List Addr} {C : List Cont} {v : V} {k : Nat} {ys : List Den} (hX : XOk c X) (hc : Core c.g.K S ps C H) (h : DenOk c.g.K S ps v (.own k)) (hy : C[k]? = some (.lst ys)) : tyV X.K "list" v H := by
  obtain ⟨p, hp1, rfl⟩ := h
  obtain ⟨vs, g1, g2⟩ := hc.cont k p _ hp1 hy
  exact .inl ⟨rfl, vs, SqL.of g1⟩
theorem ev_append {o : Expr} {apos : Pos} (h : Ev c o ρ C fun d1 C1 => ∃ (k : Nat) (ys : List Den), d1 = .own k ∧ C1[k]? = some (.lst ys) ∧ Ev c e ρ C1 fun d2 C2 => ∃ xs : List Den, C2[k]? = some (.lst xs) ∧ xs.length ≤ 1000000 ∧ P DN (C2.set k (.lst (xs ++ [d2]))))
    (hb : ∀ env, attributeBase o "append" env (eval o env) = eval o env := by intro _; rfl) (hl : (apos.endLine == pos.line) = true := by rfl) (hp : plainArg e = true := by rfl) : Ev c (.Call (.Attribute o "append" apos) [e] [] pos) ρ C P := by
  intro X hX S ps σ H hc he Q k
  refine EE.of (pe_bm F.plainAttrs_list F.slot_list_append F.type_list_append mt_append EE.pe (pa_cons EE.pe pa_nil (plain_arg hp)) (hb X.env) (by rw [plain_arg hp]; rfl) hl (plain_arg hp) rfl) ?_
  refine h X hX S ps σ H hc he _ fun S1 ps1 H1 C1 v1 d1 e1 c1 o1 ⟨kk, ys, hd, hy, h1⟩ => ?_
  subst hd
  refine ⟨own_ty hX c1 o1 hy, ?_⟩
  refine h1 X hX S1 ps1 σ H1 c1 (he.ext e1) _ fun S2 ps2 H2 C2 v2 d2 e2 c2 o2 ⟨xs, hC, hz, hP⟩ => ?_
  obtain ⟨p, hp1, rfl⟩ := e2.den o1
  obtain ⟨ws, hw1, hw2⟩ := c2.cont kk p _ hp1 hC
  have hlen := Paired.len hw2
  refine ⟨p, ws, v2, rfl, rfl, hw1, by rw [hlen]; exact Nat.lt_of_le_of_lt hz (by decide), ?_⟩
  obtain ⟨c3, e3⟩ := c2.wrote (o := .lst (ws ++ [v2])) (y := .lst (xs ++ [d2])) hp1 hC (fun z => nomatch z) ⟨_, upd_same, Paired.app hw2 (.cons o2 .nil)⟩
  exact k _ _ _ _ .non DN ((e1.trans e2).trans e3) c3 Rp.non hP
theorem ev_extend {o : Expr} {apos : Pos} (h : Ev c o ρ C fun d1 C1 => ∃ (k : Nat) (ys : List Den), d1 = .own k ∧ C1[k]? = some (.lst ys) ∧ Ev c e ρ C1 fun d2 C2 => ∃ xs zs : List Den, C2[k]? = some (.lst xs) ∧ isL d2 = true ∧ items C2 d2 = some zs ∧ xs.length + zs.length ≤ 1000000 ∧ P DN (C2.set k (.lst (xs ++ zs))))
    (hb : ∀ env, attributeBase o "extend" env (eval o env) = eval o env := by intro _; rfl) (hl : (apos.endLine == pos.line) = true := by rfl) (hp : plainArg e = true := by rfl) : Ev c (.Call (.Attribute o "extend" apos) [e] [] pos) ρ C P := by
  intro X hX S ps σ H hc he Q k
  refine EE.of (pe_bm F.plainAttrs_list F.slot_list_extend F.type_list_extend mt_extend EE.pe (pa_cons EE.pe pa_nil (plain_arg hp)) (hb X.env) (by rw [plain_arg hp]; rfl) hl (plain_arg hp) rfl) ?_
  refine h X hX S ps σ H hc he _ fun S1 ps1 H1 C1 v1 d1 e1 c1 o1 ⟨kk, ys, hd, hy, h1⟩ => ?_
  subst hd
  refine ⟨own_ty hX c1 o1 hy, ?_⟩
  refine h1 X hX S1 ps1 σ H1 c1 (he.ext e1) _ fun S2 ps2 H2 C2 v2 d2 e2 c2 o2 ⟨xs, zs, hC, il, hzs, hz, hP⟩ => ?_
  obtain ⟨p, hp1, rfl⟩ := e2.den o1
  obtain ⟨ws, hw1, hw2⟩ := c2.cont kk p _ hp1 hC
  obtain ⟨b, us, rfl, g1, g2⟩ := c2.lst' o2 il hzs
  refine ⟨p, b, ws, us, rfl, rfl, hw1, g1, by rw [Paired.len hw2, Paired.len g2]; exact Nat.le_trans hz (by decide), ?_⟩
  obtain ⟨c3, e3⟩ := c2.wrote (o := .lst (ws ++ us)) (y := .lst (xs ++ zs)) hp1 hC (fun z => nomatch z) ⟨_, upd_same, Paired.app hw2 g2⟩
  exact k _ _ _ _ .non DN ((e1.trans e2).trans e3) c3 Rp.non hP
/-! ### slices -/
/-- the items of xs[lo:hi] -/
def cut {α : Type} (xs : List α) (lo hi : Option Int) : List α := (xs.drop (HT.sIx xs.length 0 lo)).take (HT.sIx xs.length xs.length hi - HT.sIx xs.length 0 lo)
theorem cut_map {α β : Type} (f : α → β) (xs : List α) (lo hi : Option Int) : cut (xs.map f) lo hi = (cut xs lo hi).map f := by
  unfold cut
  rw [List.length_map, List.map_take, List.map_drop]
/-- a part of a slice -/
def Eo (c : Cfg) (e : Option Expr) (ρ : DEnv) (C : List Cont) (P : Option Int → List Cont → Prop) : Prop := match e with
  | none => P none C
  | some e => Ev c e ρ C fun d C1 => ∃ i, d = DI i ∧ P (some i) C1
def EPo (X : Cx) (e : Option Expr) : TO := fun σ H Q => ∃ t, PO X e t ∧ t σ H Q
theorem EPo.po {X : Cx} {e : Option Expr} : PO X e (EPo X e) := ⟨fun pins s σ H Q I ⟨_, h, q⟩ => h.run pins s σ H Q I q⟩
theorem eo_run {o : Option Expr} {PO' : Option Int → List Cont → Prop} (h : Eo c o ρ C PO') {X : Cx} (hX : XOk c X) {S : Hp} {ps : List Addr} {σ : L2.St} {H : Hp} (hc : Core c.g.K S ps C H) (he : EnvOk c.g.K S ps σ ρ) {Q : Option Int → Hp → Prop}
    (k : ∀ (S' : Hp) (ps' : List Addr) (H' : Hp) (C' : List Cont) (i : Option Int), Ext S ps H S' ps' H' → Core c.g.K S' ps' C' H' → PO' i C' → Q i H') : EPo X o σ H Q := by
  cases o with
  | none => exact ⟨_, po_none, k S ps H C none .refl hc h⟩
  | some e => exact ⟨_, po_some EE.pe, h X hX S ps σ H hc he _ fun S1 ps1 H1 C1 v d e1 c1 o1 ⟨i, hd, hp⟩ => by
      subst hd
      cases o1
      exact ⟨i, rfl, k S1 ps1 H1 C1 (some i) e1 c1 hp⟩⟩
theorem ev_slice {lo hi : Option Expr} {p2 : Pos} (h : Ev c a ρ C fun d C1 => Eo c lo ρ C1 fun l C2 => Eo c hi ρ C2 fun u C3 => (∃ xs, d = DTu xs ∧ P (DTu (cut xs l u)) C3) ∨ ∃ xs, isT d = false ∧ items C3 d = some xs ∧ P (.own C3.length) (C3 ++ [.lst (cut xs l u)])) :
    Ev c (.Subscript a (.Slice lo hi none p2) pos) ρ C P := by
  intro X hX S ps σ H hc he Q k
  refine EE.of (pe_slice (sl_list.or sl_tupA) EE.pe EPo.po EPo.po) ?_
  refine h X hX S ps σ H hc he _ fun S1 ps1 H1 C1 v1 d1 e1 c1 o1 h1 => ?_
  refine eo_run h1 hX c1 (he.ext e1) fun S2 ps2 H2 C2 l e2 c2 h2 => ?_
  refine eo_run h2 hX c2 ((he.ext e1).ext e2) fun S3 ps3 H3 C3 u e3 c3 h3 => ?_
  have o3 := e3.den (e2.den o1)
  have e13 := (e1.trans e2).trans e3
  rcases h3 with ⟨xs, hd, hP⟩ | ⟨xs, ht, hx, hP⟩
  · subst hd
    have o3' : Rp c.g.K S3 v1 (.tuple xs) := o3
    cases o3' with
    | @tup a vs _ a1 a2 =>
      have hl : vs.length = xs.length := by have := Paired.len (RpAll.dens (ps := ps) a2); rw [List.length_map] at this; exact this
      refine .inr ⟨a, vs, rfl, by rw [hX.K]; exact same_seqT c3.sub a1, fun hw => ?_, fun hw p hp => ?_⟩
      · rw [hl] at hw
        have : cut xs l u = xs := by
          unfold cut
          rw [hw.1, hw.2]
          simp
        refine k S3 ps3 H3 C3 _ (DTu (cut xs l u)) e13 c3 ?_ hP
        rw [this]
        exact o3
      · obtain ⟨c4, e4⟩ := c3.laid (o := .tup (cutV vs l u)) hp
        refine k _ _ _ C3 _ (DTu (cut xs l u)) (e13.trans e4) c4 (Rp.tup (SqT.of upd_same) (RpAll.mono e4.ss _ _ (DensOk.rpAll (ps := ps3) ?_))) hP
        rw [← cut_map]
        unfold cutV cut
        rw [List.length_map, hl]
        exact Paired.take _ (Paired.drop _ a2.dens)
  · obtain ⟨a, vs, rfl, g1, g2⟩ := c3.seqX o3 hx
    rw [ht] at g1
    have hl := Paired.len g2
    refine .inl ⟨a, vs, rfl, by rw [hX.K]; exact g1, fun p hp => ?_⟩
    obtain ⟨c4, e4⟩ := c3.owned (o := .lst (cutV vs l u)) (x := .lst (cut xs l u)) hp ⟨_, upd_same, by
      unfold cutV cut
      rw [hl]
      exact Paired.take _ (Paired.drop _ g2)⟩
    exact k _ _ _ _ _ (.own C3.length) (e13.trans e4) c4 ⟨p, by rw [← c3.len]; simp, rfl⟩ hP
end
end DL
/-! DL, seventh part: what defs promise, in three plain forms; conveniences -/
namespace DL
open PySem PySem.Spec PyProof.Rows L2
/-- a def as the module's text has it -/
def Got (g : Gx) (st : Stmt) (x : Str) (ps : List Str) : Prop := ∃ (f : Addr) (fd : FuncData), L2.Fun g.K x x st f fd ∧ g.mg x = some (.ref f) ∧ Binds g.K fd ps []
theorem got_of {g : Gx} {h : Heap} {x : Str} {st : Stmt} {ps : List Str} {fa : List He.Fa} {fn : List He.DefD} (c : He.SaysD fa fn g.K) (KX : g.K.In h) (G : h.Ns mainGlobals g.mg) (i j : Nat) (hi : fn[i]? = some ⟨(x, none), x, x, defArgs st, defBody st, defScope st, [], []⟩) (hj : fa[j]? = some (.glo x))
    (hb : ∀ (kV doc pm : Value) (an : Option Addr) (cdv ct : Value) (us : List Value), us.length = ps.length → bindArgs (PySem.W.fnOf x x (defArgs st) (defBody st) (defScope st) .none kV doc pm an cdv ct) ⟨us, []⟩ = pure (ps.zip us)) : Got g st x ps := by
  obtain ⟨fd, F⟩ := c.def_ i hi
  have m := He.glo_ok KX G (c.fact j hj)
  have b := FunD.bindsN (ps := ps) F hb
  obtain ⟨oc, od, dV, kV, doc, pm, an, cdv, ct, osl, rfl, lk, hcd, hD, hK⟩ := F.ex
  rcases hD with ⟨_, rfl⟩ | ⟨e, _⟩
  · exact ⟨_, _, ⟨⟨oc, od, kV, doc, pm, an, cdv, ct, osl, rfl, lk, hcd⟩, F.kp⟩, m, b⟩
  · exact absurd rfl e
/-- names that the module does not bind -/
def FreeB (g : Gx) (l : List Str) : Prop := ∀ x ∈ l, g.mg x = none
theorem FreeB.at {g : Gx} {l : List Str} {x : Str} (h : FreeB g l) (hx : l.any (fun y => decide (y = x)) = true) : g.mg x = none := by
  obtain ⟨y, h1, h2⟩ := List.any_eq_true.mp hx
  have : y = x := of_decide_eq_true h2
  exact h x (this ▸ h1)
theorem FreeB.of {g : Gx} {h : Heap} {fa : List He.Fa} {fn : List He.DefD} (c : He.SaysD fa fn g.K) (KX : g.K.In h) (G : h.Ns mainGlobals g.mg) (l : List Str) (hl : ∀ x ∈ l, He.Fa.free x ∈ fa) : FreeB g l := fun x hx => by
  obtain ⟨i, hi⟩ := List.getElem?_of_mem (hl x hx)
  exact He.free_ok KX G (c.fact i hi)
section
variable {g : Gx} {x : Str} {st : Stmt} {N ps : List Str} {k : Nat} {ds : DSpec}
/-- a def's promise -/
theorem fn_got (F : Got g st x ps) (Sc : FnScope N ps (defScope st)) (hl : ∀ args C P, ds args C P → args.length = ps.length)
    (body : ∀ args C P, ds args C P → Ss ⟨g, N, defScope st, fun _ => true, k⟩ (defBody st) (args.map some ++ List.replicate (N.length - args.length) none) C (DEnds.trim C.length { nx := fun _ C' => P DN C', rt := P })) : FnD g x (k + 1) ds := by
  obtain ⟨f, fd, F, hm, hb⟩ := F
  exact fn_mk F Sc hm hb hl fun args C P h => (body args C P h).trim
/-- of data, to data -/
def pureS {A : Type} (inp : A → List Den) (pre : A → Prop) (post : A → PyData → Prop) : DSpec := fun args C P => C = [] ∧ ∃ a, args = inp a ∧ pre a ∧ ∀ r, post a r → P (.dat r) []
/-- of data, to a new list -/
def freshS {A : Type} (inp : A → List Den) (pre : A → Prop) (post : A → List PyData → Prop) : DSpec := fun args C P => C = [] ∧ ∃ a, args = inp a ∧ pre a ∧ ∀ r, post a r → P (.own 0) [.lst (r.map .dat)]
/-- of one owned list of whole numbers, that is changed or read, and data, to data -/
def wrS {A : Type} (inp : A → List Den) (st : A → List Int) (pre : A → Prop) (post : A → PyData → List Int → Prop) : DSpec := fun args C P => ∃ a, C = [.lst ((st a).map DI)] ∧ args = inp a ∧ pre a ∧ ∀ r x, post a r x → P (.dat r) [.lst (x.map DI)]
end
theorem flat_DI (xs : List Int) : (xs.map DI).all flatD = true := by
  induction xs with
  | nil => rfl
  | cons x xs ih => rw [List.map_cons, List.all_cons, ih]; rfl
theorem flat_dat (xs : List PyData) : (xs.map Den.dat).all flatD = true := by
  induction xs with
  | nil => rfl
  | cons x xs ih => rw [List.map_cons, List.all_cons, ih]; rfl
theorem reD_flat {m : Nat → Nat} : ∀ {xs : List Den}, xs.all flatD = true → xs.map (reD m) = xs
  | [], _ => rfl
  | d :: xs, h => by
    rw [List.all_cons, Bool.and_eq_true] at h
    rw [List.map_cons, reD_flat h.2]
    congr 1
    cases d with
    | own k => exact absurd h.1 Bool.false_ne_true
    | _ => rfl
theorem okD_flat {n : Nat} : ∀ {xs : List Den}, xs.all flatD = true → xs.all (okD n) = true
  | [], _ => rfl
  | d :: xs, h => by
    rw [List.all_cons, Bool.and_eq_true] at h
    rw [List.all_cons, okD_flat h.2, Bool.and_true]
    cases d with
    | own k => exact absurd h.1 Bool.false_ne_true
    | _ => rfl
section
variable {c : Cfg} {ρ : DEnv} {C : List Cont} {P : Den → List Cont → Prop} {a b e : Expr} {es : List Expr} {pos p : Pos} {x : Str} {k : Nat} {A : Type} {inp : A → List Den} {pre : A → Prop}
theorem ev_fnP {post : A → PyData → Prop} (F : FnD c.g x k (pureS inp pre post)) (hk : k ≤ c.kr) (hg : glB c.sc x = true) (hn : okName x = true) (hp : plainArgs (e :: es) = true)
    (h : Ea c (e :: es) ρ C fun args C1 => args.all flatD = true ∧ ∃ a, args = inp a ∧ pre a ∧ ∀ r, post a r → P (.dat r) C1) : Ev c (.Call (.Name x p) (e :: es) [] pos) ρ C P := by
  refine ev_fn0 F hk hg hn hp (fun args C P P' f ⟨h, a, h1, h2, h3⟩ => ⟨h, a, h1, h2, fun r q => f _ _ (h3 r q)⟩) ?_
  refine fun X hX S ps σ H hc he Q kk => h X hX S ps σ H hc he Q fun S1 ps1 H1 C1 vs args e1 c1 o1 ⟨h1, a, h2, h3, h4⟩ => kk S1 ps1 H1 C1 vs args e1 c1 o1 ⟨h1, rfl, a, h2, h3, fun r q => ?_⟩
  show P (reD _ (.dat r)) (C1 ++ [].map _)
  rw [List.map_nil, List.append_nil]
  exact h4 r q
theorem ev_fnO {post : A → List PyData → Prop} (F : FnD c.g x k (freshS inp pre post)) (hk : k ≤ c.kr) (hg : glB c.sc x = true) (hn : okName x = true) (hp : plainArgs (e :: es) = true)
    (h : Ea c (e :: es) ρ C fun args C1 => args.all flatD = true ∧ ∃ a, args = inp a ∧ pre a ∧ ∀ r, post a r → P (.own C1.length) (C1 ++ [.lst (r.map .dat)])) : Ev c (.Call (.Name x p) (e :: es) [] pos) ρ C P := by
  refine ev_fn0 F hk hg hn hp (fun args C P P' f ⟨h, a, h1, h2, h3⟩ => ⟨h, a, h1, h2, fun r q => f _ _ (h3 r q)⟩) ?_
  refine fun X hX S ps σ H hc he Q kk => h X hX S ps σ H hc he Q fun S1 ps1 H1 C1 vs args e1 c1 o1 ⟨h1, a, h2, h3, h4⟩ => kk S1 ps1 H1 C1 vs args e1 c1 o1 ⟨h1, rfl, a, h2, h3, fun r q => ?_⟩
  show P (.own (0 + C1.length)) (C1 ++ [.lst ((r.map Den.dat).map (reD _))])
  rw [Nat.zero_add, reD_flat (flat_dat r)]
  exact h4 r q
theorem ev_fnW {st : A → List Int} {post : A → PyData → List Int → Prop} (i : Nat) (F : FnD c.g x k (wrS inp st pre post)) (hk : k ≤ c.kr) (hg : glB c.sc x = true) (hn : okName x = true) (hp : plainArgs (e :: es) = true)
    (h : Ea c (e :: es) ρ C fun args C1 => args.all (onlyD i) = true ∧ ∃ a, C1[i]? = some (.lst ((st a).map DI)) ∧ args.map (toD i) = inp a ∧ pre a ∧ ∀ r x, post a r x → P (.dat r) (C1.set i (.lst (x.map DI)))) : Ev c (.Call (.Name x p) (e :: es) [] pos) ρ C P := by
  refine ev_fn1 i F hk hg hn hp (fun args C P P' f ⟨a, h1, h2, h3, h4⟩ => ⟨a, h1, h2, h3, fun r x q => f _ _ (h4 r x q)⟩) ?_
  refine fun X hX S ps σ H hc he Q kk => h X hX S ps σ H hc he Q fun S1 ps1 H1 C1 vs args e1 c1 o1 ⟨h1, a, h2, h3, h4, h5⟩ => ?_
  refine kk S1 ps1 H1 C1 vs args e1 c1 o1 ⟨.lst ((st a).map DI), h2, Cont.noConfusion, flat_DI (st a), h1, a, rfl, h3, h4, fun r x1 q => ⟨_, [], rfl, ?_⟩⟩
  show P (.dat r) (C1.set i (.lst ((x1.map DI).map (reD _))) ++ [].map _)
  rw [reD_flat (flat_DI x1), List.map_nil, List.append_nil]
  exact h5 r x1 q
end
/-! ### at the end of a def -/
/-- no slot tells of what stands at n or beyond -/
def okE (n : Nat) (ρ : DEnv) : Bool := ρ.all fun o => match o with
  | some d => okD n d
  | none => true
theorem okE_get {n i : Nat} {ρ : DEnv} {d : Den} (h : okE n ρ = true) (q : ρ[i]? = some (some d)) : okD n d = true := by
  have := List.all_eq_true.mp h (some d) (List.mem_of_getElem? q)
  exact this
theorem trimE_same {n : Nat} {ρ : DEnv} {C C' : List Cont} (hn : n ≤ C.length) (hT : C.take n = C') (hC : C'.all (okC n) = true) (hE : okE n ρ = true) : TrimE n ρ C ρ C' := ⟨Trim.at hn hT hC, rfl, fun i d' q => ⟨d', q, .inl ⟨rfl, okE_get hE q⟩⟩⟩
theorem forg_get {ρ : DEnv} : ∀ {is : List Nat} {i : Nat} {d : Den}, (forg ρ is)[i]? = some (some d) → ρ[i]? = some (some d)
  | [], _, _, h => h
  | j :: is, i, d, h => by
    unfold forg at h
    by_cases hj : j = i
    · subst hj
      have hl := (List.getElem?_eq_some_iff.mp h).1
      rw [List.length_set] at hl
      rw [List.getElem?_set_self hl] at h
      cases h
    · rw [List.getElem?_set_ne hj] at h
      exact forg_get h
theorem trimE_forg {n : Nat} {ρ : DEnv} {C C' : List Cont} (is : List Nat) (hn : n ≤ C.length) (hT : C.take n = C') (hC : C'.all (okC n) = true) (hE : okE n (forg ρ is) = true) : TrimE n ρ C (forg ρ is) C' := ⟨Trim.at hn hT hC, forg_length ρ is, fun i d' q => ⟨d', forg_get q, .inl ⟨rfl, okE_get hE q⟩⟩⟩
section
variable {m : Nat} {D : DEnds} {ρ : DEnv} {C C' : List Cont}
theorem nx_at (n : Nat) (hm : m ≤ n) (hn : n ≤ C.length) (hT : C.take n = C') (hC : C'.all (okC n) = true) (hE : okE n ρ = true) (h : D.nx ρ C') : (D.trim m).nx ρ C := ⟨n, ρ, C', hm, trimE_same hn hT hC hE, h⟩
theorem nx_forg (n : Nat) (is : List Nat) (hm : m ≤ n) (hn : n ≤ C.length) (hT : C.take n = C') (hC : C'.all (okC n) = true) (hE : okE n (forg ρ is) = true) (h : D.nx (forg ρ is) C') : (D.trim m).nx ρ C := ⟨n, _, C', hm, trimE_forg is hn hT hC hE, h⟩
theorem nx_end (n : Nat) (hm : m ≤ n) (hn : n ≤ C.length) (hT : C.take n = C') (hC : C'.all (okC n) = true) (h : ∀ ρ', D.nx ρ' C') : (D.trim m).nx ρ C :=
  ⟨n, List.replicate ρ.length none, C', hm, ⟨Trim.at hn hT hC, List.length_replicate, fun i d' q => by
    rw [List.getElem?_replicate] at q
    split at q <;> cases q⟩, h _⟩
theorem ct_at (n : Nat) (hm : m ≤ n) (hn : n ≤ C.length) (hT : C.take n = C') (hC : C'.all (okC n) = true) (hE : okE n ρ = true) (h : D.ct ρ C') : (D.trim m).ct ρ C := ⟨n, ρ, C', hm, trimE_same hn hT hC hE, h⟩
theorem bk_at (n : Nat) (hm : m ≤ n) (hn : n ≤ C.length) (hT : C.take n = C') (hC : C'.all (okC n) = true) (hE : okE n ρ = true) (h : D.bk ρ C') : (D.trim m).bk ρ C := ⟨n, ρ, C', hm, trimE_same hn hT hC hE, h⟩
theorem rt_at {r : PyData} (n : Nat) (hm : m ≤ n) (hn : n ≤ C.length) (hT : C.take n = C') (hC : C'.all (okC n) = true) (h : D.rt (.dat r) C') : (D.trim m).rt (.dat r) C := .inl ⟨n, .dat r, C', hm, Trim.at hn hT hC, .inl ⟨rfl, rfl⟩, h⟩
theorem rt_own {k : Nat} (n : Nat) (hm : m ≤ n) (hk : k < n) (hn : n ≤ C.length) (hT : C.take n = C') (hC : C'.all (okC n) = true) (h : D.rt (.own k) C') : (D.trim m).rt (.own k) C := .inl ⟨n, .own k, C', hm, Trim.at hn hT hC, .inl ⟨rfl, decide_eq_true hk⟩, h⟩
theorem rt_pick {k : Nat} {x : Cont} (n : Nat) (hm : m ≤ n) (hk : n ≤ k) (hx : C[k]? = some x) (hT : C.take n = C') (hC : C'.all (okC n) = true) (ho : okC n x = true) (h : D.rt (.own n) (C' ++ [x])) : (D.trim m).rt (.own k) C := .inr ⟨n, k, x, hm, hk, rfl, hx, by rw [hT]; exact hC, ho, by rw [hT]; exact h⟩
end
@[simp] theorem okC_DI {n : Nat} {xs : List Int} : okC n (.lst (xs.map DI)) = true := okD_flat (flat_DI xs)
@[simp] theorem okC_dat {n : Nat} {xs : List PyData} : okC n (.lst (xs.map .dat)) = true := okD_flat (flat_dat xs)
@[simp] theorem okC_app {n : Nat} {xs ys : List Den} : okC n (.lst (xs ++ ys)) = (okC n (.lst xs) && okC n (.lst ys)) := by
  show (xs ++ ys).all (okD n) = (xs.all (okD n) && ys.all (okD n))
  rw [List.all_append]
@[simp] theorem okC_set {n : Nat} {xs : List Den} {i : Nat} {d : PyData} (h : okC n (.lst xs) = true) : okC n (.lst (xs.set i (.dat d))) = true := by
  refine List.all_eq_true.mpr fun x hx => ?_
  rcases List.mem_or_eq_of_mem_set hx with h1 | h1
  · exact List.all_eq_true.mp h x h1
  · rw [h1]; rfl
@[simp] theorem okC_one {n : Nat} {d : PyData} : okC n (.lst [.dat d]) = true := rfl
@[simp] theorem okC_nil {n : Nat} : okC n (.lst []) = true := rfl
/-! ### rows of whole numbers -/
theorem intl_dat (xs : List Int) : (intl xs).map Den.dat = xs.map DI := by
  rw [List.map_map]
  rfl
theorem items_T {C : List Cont} (xs : List Int) : items C (DTu (intl xs)) = some (xs.map DI) := by
  show some ((intl xs).map Den.dat) = _
  rw [intl_dat]
theorem items_L {C : List Cont} (xs : List Int) : items C (DLs (intl xs)) = some (xs.map DI) := by
  show some ((intl xs).map Den.dat) = _
  rw [intl_dat]
theorem items_own {C : List Cont} {k : Nat} {xs : List Den} (h : C[k]? = some (.lst xs)) : items C (.own k) = some xs := by
  show (match C[k]? with
    | some (.lst xs) => some xs
    | _ => none) = some xs
  rw [h]
theorem atI_ints {xs : List Int} {i : Int} (h0 : 0 ≤ i) (h1 : i < xs.length) : atI (xs.map DI) i = some (DI (xs.getD i.toNat 0)) := by
  have h2 : i.toNat < xs.length := by omega
  unfold atI ixN
  rw [if_pos h0, List.length_map, if_pos h1]
  show (xs.map DI)[i.toNat]? = _
  rw [List.getElem?_map, List.getElem?_eq_getElem h2, List.getD_eq_getElem?_getD, List.getElem?_eq_getElem h2]
  rfl
section
variable {c : Cfg} {C : List Cont} {P : Den → List Cont → Prop} {d1 : Den}
theorem x_ints {xs : List Int} {i : Int} (hx : items C d1 = some (xs.map DI)) (h0 : 0 ≤ i) (h1 : i < xs.length) (h : P (DI (xs.getD i.toNat 0)) C) : Op c .x [d1, DI i] C P := x_seq hx (atI_ints h0 h1) h
theorem c_lenI {xs : List Int} (hx : items C d1 = some (xs.map DI)) (h : P (DI (xs.length : Int)) C) : Op c (.f (.builtin "len")) [d1] C P := c_len hx (by rw [List.length_map]; exact h)
theorem c_tupI {xs : List Int} (ht : isT d1 = false) (hx : items C d1 = some (xs.map DI)) (h : P (DTu (intl xs)) C) : Op c (.f (.type "tuple")) [d1] C P := c_tuple ht (by rw [intl_dat]; exact hx) h
end
end DL
/-! DL, eighth part: loops and comprehensions of the usual forms -/
namespace DL
open PySem PySem.Spec PyProof.Rows L2
section
variable {c : Cfg} {ρ : DEnv} {C : List Cont} {P : Den → List Cont → Prop} {a b e elt iter tg : Expr} {ifs es : List Expr} {body : List Stmt} {pos p px p2 pt pos2 : Pos} {x y : Str} {k kt : Nat} {D : DEnds} {vs : List Nat}
/-- a pair of names as a target -/
theorem gv_pair {PE' : DEnv → List Cont → Prop} {d1 d2 : PyData} (i j : Nat) (hi : i ∈ vs) (hj : j ∈ vs) (hN : c.N[i]? = some x) (hM : c.N[j]? = some y) (hx : locB c.sc c.fnm x = true) (hy : locB c.sc c.fnm y = true) (h : PE' ((ρ.set i (some (.dat d1))).set j (some (.dat d2))) C) :
    Gv c vs (.Tuple [.Name x px, .Name y p2] kt pt) (DTu [d1, d2]) ρ C PE' :=
  gv_tup (fun _ => rfl) (fun _ => rfl) rfl (gvs_cons (fun _ => rfl) (gv_name i hi hN hx (gvs_cons (fun _ => rfl) (gv_name j hj hM hy (gvs_nil h)))))
theorem gv_triple {PE' : DEnv → List Cont → Prop} {z : Str} {p3 : Pos} {d1 d2 d3 : PyData} (i j l : Nat) (hi : i ∈ vs) (hj : j ∈ vs) (hl : l ∈ vs) (hN : c.N[i]? = some x) (hM : c.N[j]? = some y) (hL : c.N[l]? = some z) (hx : locB c.sc c.fnm x = true) (hy : locB c.sc c.fnm y = true) (hz : locB c.sc c.fnm z = true)
    (h : PE' (((ρ.set i (some (.dat d1))).set j (some (.dat d2))).set l (some (.dat d3))) C) : Gv c vs (.Tuple [.Name x px, .Name y p2, .Name z p3] kt pt) (DTu [d1, d2, d3]) ρ C PE' :=
  gv_tup (fun _ => rfl) (fun _ => rfl) rfl (gvs_cons (fun _ => rfl) (gv_name i hi hN hx (gvs_cons (fun _ => rfl) (gv_name j hj hM hy (gvs_cons (fun _ => rfl) (gv_name l hl hL hz (gvs_nil h)))))))
/-- what a loop's body leaves -/
abbrev loopE (D : DEnds) (C' : List Cont) (nxt : DEnv → List Cont → Prop) : DEnds := DEnds.trim C'.length { nx := nxt, rt := D.rt, bk := D.nx, ct := nxt }
/-- for x in range(n) -/
theorem s1_range1 (j : Nat) (hg : glB c.sc "range" = true) (hm : c.g.mg "range" = none) (hp : plainArgs [a] = true) (hN : c.N[j]? = some x) (hx : locB c.sc c.fnm x = true)
    (h : Ea c [a] ρ C fun ds C1 => ∃ n : Int, ds = [DI n] ∧ n < 2 ^ 62 ∧ -(2 ^ 62) ≤ n ∧ ∃ Iv : Nat → DEnv → List Cont → Prop, Iv 0 ρ C1 ∧ (∀ (i : Nat) ρ' C', (i : Int) < n → Iv i ρ' C' → Ss c body (ρ'.set j (some (DI (i : Int)))) C' (loopE D C' (Iv (i + 1)))) ∧ ∀ ρ' C', Iv n.toNat ρ' C' → D.nx ρ' C') :
    S1 c (.For (.Name x px) (.Call (.Name "range" p) [a] [] p2) body [] pos) ρ C D := by
  refine s1_for (vs := [j]) (fun _ _ => rfl) (ei_range1 hg hm hp ?_)
  refine fun X hX S ps σ H hc he Q kk => h X hX S ps σ H hc he Q fun S1 ps1 H1 C1 us ds e1 c1 o1 ⟨n, h1, h2, h3, Iv, h4, h5, h6⟩ => kk S1 ps1 H1 C1 us ds e1 c1 o1 ⟨n, h1, h2, h3, Iv, h4, fun _ _ _ _ _ => trivial, fun i d ρ' C' hd hi => ?_, fun ρ' C' hi => h6 ρ' C' (by simpa using hi)⟩
  rw [List.getElem?_map] at hd
  have hl : i < n.toNat := by
    by_cases z : i < n.toNat
    · exact z
    · rw [List.getElem?_eq_none (by simp; omega)] at hd
      cases hd
  rw [List.getElem?_range hl] at hd
  have e : DI (0 + (i : Int)) = d := Option.some.inj hd
  subst e
  refine gv_name j (by simp) hN hx ?_
  rw [Int.zero_add]
  exact (h5 i ρ' C' (by omega) hi).trim
/-- for x in range(lo, hi) -/
theorem s1_range2 (j : Nat) (hg : glB c.sc "range" = true) (hm : c.g.mg "range" = none) (hp : plainArgs [a, b] = true) (hN : c.N[j]? = some x) (hx : locB c.sc c.fnm x = true)
    (h : Ea c [a, b] ρ C fun ds C1 => ∃ lo hi : Int, ds = [DI lo, DI hi] ∧ (-(2 ^ 62) ≤ lo ∧ lo < 2 ^ 62 ∧ -(2 ^ 62) ≤ hi ∧ hi < 2 ^ 62) ∧ ∃ Iv : Int → DEnv → List Cont → Prop, Iv lo ρ C1 ∧ (∀ (i : Int) ρ' C', lo ≤ i → i < hi → Iv i ρ' C' → Ss c body (ρ'.set j (some (DI i))) C' (loopE D C' (Iv (i + 1)))) ∧ ∀ ρ' C', Iv (if lo ≤ hi then hi else lo) ρ' C' → D.nx ρ' C') :
    S1 c (.For (.Name x px) (.Call (.Name "range" p) [a, b] [] p2) body [] pos) ρ C D := by
  refine s1_for (vs := [j]) (fun _ _ => rfl) (ei_range2 hg hm hp ?_)
  refine fun X hX S ps σ H hc he Q kk => h X hX S ps σ H hc he Q fun S1 ps1 H1 C1 us ds e1 c1 o1 ⟨lo, n, h1, h2, Iv, h4, h5, h6⟩ => kk S1 ps1 H1 C1 us ds e1 c1 o1 ⟨lo, n, h1, h2, fun i => Iv (lo + (i : Int)), by simpa using h4, fun _ _ _ _ _ => trivial, fun i d ρ' C' hd hi => ?_, fun ρ' C' hi => h6 ρ' C' ?_⟩
  · rw [List.getElem?_map] at hd
    have hl : i < (n - lo).toNat := by
      by_cases z : i < (n - lo).toNat
      · exact z
      · rw [List.getElem?_eq_none (by simp; omega)] at hd
        cases hd
    rw [List.getElem?_range hl] at hd
    have e : DI (lo + (i : Int)) = d := Option.some.inj hd
    subst e
    refine gv_name j (by simp) hN hx ?_
    have e2 : lo + ((i + 1 : Nat) : Int) = lo + (i : Int) + 1 := by omega
    have q := (h5 (lo + i) ρ' C' (by omega) (by omega) hi).trim
    rw [← e2] at q
    exact q
  · have e : lo + (((n - lo).toNat : Nat) : Int) = if lo ≤ n then n else lo := by
      by_cases z : lo ≤ n
      · rw [if_pos z]; omega
      · rw [if_neg z]; omega
    rw [← e]
    simpa using hi
/-- for x in range(lo, hi, st): the i-th is lo + i * st -/
theorem s1_range3 (j : Nat) (hg : glB c.sc "range" = true) (hm : c.g.mg "range" = none) (hp : plainArgs [a, b, e] = true) (hN : c.N[j]? = some x) (hx : locB c.sc c.fnm x = true)
    (h : Ea c [a, b, e] ρ C fun ds C1 => ∃ (lo hi st : Int) (n : Nat), ds = [DI lo, DI hi, DI st] ∧ RgC lo hi st n ∧ ∃ Iv : Nat → DEnv → List Cont → Prop, Iv 0 ρ C1 ∧ (∀ (i : Nat) ρ' C', i < n → Iv i ρ' C' → Ss c body (ρ'.set j (some (DI (lo + (i : Int) * st)))) C' (loopE D C' (Iv (i + 1)))) ∧ ∀ ρ' C', Iv n ρ' C' → D.nx ρ' C') :
    S1 c (.For (.Name x px) (.Call (.Name "range" p) [a, b, e] [] p2) body [] pos) ρ C D := by
  refine s1_for (vs := [j]) (fun _ _ => rfl) (ei_range3 hg hm hp ?_)
  refine fun X hX S ps σ H hc he Q kk => h X hX S ps σ H hc he Q fun S1 ps1 H1 C1 us ds e1 c1 o1 ⟨lo, hi, st, n, h1, h2, Iv, h4, h5, h6⟩ => kk S1 ps1 H1 C1 us ds e1 c1 o1 ⟨lo, hi, st, n, h1, h2, Iv, h4, fun _ _ _ _ _ => trivial, fun i d ρ' C' hd hi => ?_, fun ρ' C' hi => h6 ρ' C' (by simpa using hi)⟩
  rw [List.getElem?_map] at hd
  have hl : i < n := by
    by_cases z : i < n
    · exact z
    · rw [List.getElem?_eq_none (by simp; omega)] at hd
      cases hd
  rw [List.getElem?_range hl] at hd
  have e : DI (lo + (i : Int) * st) = d := Option.some.inj hd
  subst e
  exact gv_name j (by simp) hN hx (h5 i ρ' C' hl hi).trim
/-- for x in e -/
theorem s1_items (j : Nat) (hs : ∀ env v, foldedSetIterable e env v = pure v) (hN : c.N[j]? = some x) (hx : locB c.sc c.fnm x = true)
    (h : Ev c e ρ C fun d C1 => ∃ xs, items C1 d = some xs ∧ ∃ Iv : Nat → DEnv → List Cont → Prop, Iv 0 ρ C1 ∧ (∀ i ρ' C', i ≤ xs.length → Iv i ρ' C' → items C' d = some xs) ∧ (∀ (i : Nat) (z : Den) ρ' C', xs[i]? = some z → Iv i ρ' C' → Ss c body (ρ'.set j (some z)) C' (loopE D C' (Iv (i + 1)))) ∧ ∀ ρ' C', Iv xs.length ρ' C' → D.nx ρ' C') :
    S1 c (.For (.Name x px) e body [] pos) ρ C D := by
  refine s1_for (vs := [j]) hs (ei_seq ?_)
  refine fun X hX S ps σ H hc he Q kk => h X hX S ps σ H hc he Q fun S1 ps1 H1 C1 v d e1 c1 o1 ⟨xs, h1, Iv, h4, h5, h6, h7⟩ => kk S1 ps1 H1 C1 v d e1 c1 o1 ⟨xs, h1, Iv, h4, h5, fun i d ρ' C' hd hi => ?_, h7⟩
  exact gv_name j (by simp) hN hx (h6 i d ρ' C' hd hi).trim
/-- for i, x in enumerate(e) -/
theorem s1_enum (i j : Nat) (hg : glB c.sc "enumerate" = true) (hm : c.g.mg "enumerate" = none) (hp : plainArgs [e] = true) (hN : c.N[i]? = some x) (hM : c.N[j]? = some y) (hx : locB c.sc c.fnm x = true) (hy : locB c.sc c.fnm y = true)
    (h : Ea c [e] ρ C fun ds C1 => ∃ (d : Den) (ys : List PyData), ds = [d] ∧ items C1 d = some (ys.map .dat) ∧ ∃ Iv : Nat → DEnv → List Cont → Prop, Iv 0 ρ C1 ∧ (∀ n ρ' C', n ≤ ys.length → Iv n ρ' C' → items C' d = some (ys.map .dat)) ∧
      (∀ (n : Nat) (z : PyData) ρ' C', ys[n]? = some z → Iv n ρ' C' → Ss c body ((ρ'.set i (some (DI (n : Int)))).set j (some (.dat z))) C' (loopE D C' (Iv (n + 1)))) ∧ ∀ ρ' C', Iv ys.length ρ' C' → D.nx ρ' C') :
    S1 c (.For (.Tuple [.Name x px, .Name y p2] kt pt) (.Call (.Name "enumerate" p) [e] [] pos2) body [] pos) ρ C D := by
  refine s1_for (vs := [i, j]) (fun _ _ => rfl) (ei_enum hg hm hp ?_)
  refine fun X hX S ps σ H hc he Q kk => h X hX S ps σ H hc he Q fun S1 ps1 H1 C1 us ds e1 c1 o1 ⟨d, ys, h1, h2, Iv, h4, h5, h6, h7⟩ => kk S1 ps1 H1 C1 us ds e1 c1 o1 ⟨d, ys, h1, h2, Iv, h4, fun n ρ' C' hl hi => h5 n ρ' C' (by simpa [enumD_len] using hl) hi, fun n z ρ' C' hd hi => ?_, fun ρ' C' hi => h7 ρ' C' (by simpa [enumD_len] using hi)⟩
  rw [List.getElem?_map, enumD_get] at hd
  cases hz : ys[n]? with
  | none => rw [hz] at hd; cases hd
  | some w =>
    rw [hz] at hd
    have e : Den.dat (.tuple [.int ((0 + n : Nat) : Int), w]) = z := Option.some.inj hd
    subst e
    rw [Nat.zero_add]
    exact gv_pair i j (by simp) (by simp) hN hM hx hy (h6 n w ρ' C' hz hi).trim
/-- for x, y in zip(a, b) -/
theorem s1_zip (i j : Nat) (hg : glB c.sc "zip" = true) (hm : c.g.mg "zip" = none) (hp : plainArgs [a, b] = true) (hN : c.N[i]? = some x) (hM : c.N[j]? = some y) (hx : locB c.sc c.fnm x = true) (hy : locB c.sc c.fnm y = true)
    (h : Ea c [a, b] ρ C fun ds C1 => ∃ (d d2 : Den) (xs ys : List PyData), ds = [d, d2] ∧ items C1 d = some (xs.map .dat) ∧ items C1 d2 = some (ys.map .dat) ∧ ∃ Iv : Nat → DEnv → List Cont → Prop, Iv 0 ρ C1 ∧ (∀ n ρ' C', Iv n ρ' C' → items C' d = some (xs.map .dat) ∧ items C' d2 = some (ys.map .dat)) ∧
      (∀ (n : Nat) (z w : PyData) ρ' C', xs[n]? = some z → ys[n]? = some w → Iv n ρ' C' → Ss c body ((ρ'.set i (some (.dat z))).set j (some (.dat w))) C' (loopE D C' (Iv (n + 1)))) ∧ ∀ ρ' C', Iv (min xs.length ys.length) ρ' C' → D.nx ρ' C') :
    S1 c (.For (.Tuple [.Name x px, .Name y p2] kt pt) (.Call (.Name "zip" p) [a, b] [] pos2) body [] pos) ρ C D := by
  refine s1_for (vs := [i, j]) (fun _ _ => rfl) (ei_zip hg hm hp ?_)
  refine fun X hX S ps σ H hc he Q kk => h X hX S ps σ H hc he Q fun S1 ps1 H1 C1 us ds e1 c1 o1 ⟨d, d2, xs, ys, h1, h2, h3, Iv, h4, h5, h6, h7⟩ => kk S1 ps1 H1 C1 us ds e1 c1 o1 ⟨d, d2, xs, ys, h1, h2, h3, Iv, h4, fun n ρ' C' hl hi => h5 n ρ' C' hi, fun n z ρ' C' hd hi => ?_, fun ρ' C' hi => h7 ρ' C' (by simpa [zipD_len] using hi)⟩
  have hl : n < min xs.length ys.length := by
    have := (List.getElem?_eq_some_iff.mp hd).1
    rw [List.length_map, zipD_len] at this
    exact this
  have hz : xs[n]? = some (xs[n]'(by omega)) := List.getElem?_eq_getElem _
  have hw : ys[n]? = some (ys[n]'(by omega)) := List.getElem?_eq_getElem _
  rw [List.getElem?_map, zipD_get xs ys n _ _ hz hw] at hd
  have e := Option.some.inj hd
  subst e
  exact gv_pair i j (by simp) (by simp) hN hM hx hy (h6 n _ _ ρ' C' hz hw hi).trim
/-! ### comprehensions -/
/-- one clause: what is owned before, and the list as it grows -/
theorem lc_gen {scope : Scope} {PI0 : List Den → (List Cont → Prop) → List Cont → Prop} (he : Ei c tg iter ρ C PI0)
    (h : ∀ xs G C1, PI0 xs G C1 → xs.length ≤ 900000 ∧ ∃ Iv : Nat → List Den → List Cont → Prop, Iv 0 [] C1 ∧ (∀ i acc Cp, Iv i acc Cp → Cp.length = C1.length → G (Cp ++ [.lst acc])) ∧
      (∀ i d acc Cp, xs[i]? = some d → Cp.length = C1.length → Iv i acc Cp → Gv (c.blk scope) vs tg d (forg ρ vs) (Cp ++ [.lst acc]) fun ρ2 C2 => Efs (c.blk scope) ifs ρ2 C2 fun b C3 =>
        (b = true → Ev (c.blk scope) elt ρ2 C3 fun z C4 => ∃ Cp', C4 = Cp' ++ [.lst acc] ∧ Cp'.length = C1.length ∧ Iv (i + 1) (acc ++ [z]) Cp') ∧ (b = false → ∃ Cp', C3 = Cp' ++ [.lst acc] ∧ Cp'.length = C1.length ∧ Iv (i + 1) acc Cp')) ∧
      ∀ acc Cp, Cp.length = C1.length → Iv xs.length acc Cp → P (.own C1.length) (Cp ++ [.lst acc])) : Lc c scope vs elt tg iter ifs ρ C P := by
  refine fun X hX S ps σ H hc hen R kk => he X hX S ps σ H hc hen R fun S1 ps1 H1 C1 J xs G e1 c1 it hp => kk S1 ps1 H1 C1 J xs G e1 c1 it ?_
  obtain ⟨hl, Iv, h0, hG, hst, hd⟩ := h xs G C1 hp
  refine ⟨fun i C' => ∃ acc Cp, C' = Cp ++ [.lst acc] ∧ Cp.length = C1.length ∧ acc.length ≤ i ∧ i ≤ xs.length ∧ Iv i acc Cp, ⟨[], C1, rfl, rfl, Nat.le_refl _, Nat.zero_le _, h0⟩, ?_, ?_, ?_⟩
  · rintro i C' hi ⟨acc, Cp, rfl, h1, _, _, h2⟩
    exact hG i acc Cp h2 h1
  · rintro i d C' hdi ⟨acc, Cp, rfl, h1, h3, h4, h2⟩
    have hil := (List.getElem?_eq_some_iff.mp hdi).1
    refine fun Y hY S ps σ H v hc hen hdo Q kk => hst i d acc Cp hdi h1 h2 Y hY S ps σ H v hc hen hdo Q fun S2 ps2 H2 C2 σ2 ρ2 e2 c2 en2 hq => kk S2 ps2 H2 C2 σ2 ρ2 e2 c2 en2 ?_
    refine fun Z hZ S ps σ H hc hen Q kk => hq Z hZ S ps σ H hc hen Q fun S3 ps3 H3 C3 z e3 c3 hz => kk S3 ps3 H3 C3 z e3 c3 ⟨fun hb => ?_, fun hb => ?_⟩
    · refine (hz.1 hb).mono fun w C4 hw => ?_
      obtain ⟨Cp', rfl, g1, g2⟩ := hw
      refine ⟨acc, by rw [← g1]; simp, by omega, acc ++ [w], Cp', ?_, g1, by simp; omega, by omega, g2⟩
      rw [← g1, List.set_append_right _ _ (Nat.le_refl _), Nat.sub_self]
      rfl
    · obtain ⟨Cp', rfl, g1, g2⟩ := hz.2 hb
      exact ⟨acc, Cp', rfl, g1, by omega, by omega, g2⟩
  · rintro C' ⟨acc, Cp, rfl, h1, _, _, h2⟩
    exact hd acc Cp h1 h2
/-- [.. for x in range(n)], each item data -/
theorem lc_range1 {scope : Scope} (j : Nat) (hv : j ∈ vs) (hg : glB c.sc "range" = true) (hm : c.g.mg "range" = none) (hp : plainArgs [a] = true) (hN : c.N[j]? = some x) (hx : locB (relS scope c.sc) (fun y => scope.names.lookup y == some .cell) x = true)
    (h : Ea c [a] ρ C fun ds C1 => ∃ (n : Int) (f : Nat → PyData), ds = [DI n] ∧ n ≤ 900000 ∧ -(2 ^ 62) ≤ n ∧ (∀ (i : Nat) acc, (i : Int) < n → Ev (c.blk scope) elt ((forg ρ vs).set j (some (DI (i : Int)))) (C1 ++ [.lst acc]) fun z C4 => z = .dat (f i) ∧ C1 ++ [.lst acc] = C4) ∧ P (.own C1.length) (C1 ++ [.lst (((List.range n.toNat).map f).map .dat)])) :
    Lc c scope vs elt (.Name x px) (.Call (.Name "range" p) [a] [] p2) [] ρ C P := by
  refine lc_gen (PI0 := fun xs G C1 => ∃ (n : Int) (f : Nat → PyData), n ≤ 900000 ∧ xs = ((List.range n.toNat).map fun (i : Nat) => DI (0 + (i : Int))) ∧ (∀ C', G C') ∧ (∀ (i : Nat) acc, (i : Int) < n → Ev (c.blk scope) elt ((forg ρ vs).set j (some (DI (i : Int)))) (C1 ++ [.lst acc]) fun z C4 => z = .dat (f i) ∧ C1 ++ [.lst acc] = C4) ∧ P (.own C1.length) (C1 ++ [.lst (((List.range n.toNat).map f).map .dat)])) (ei_range1 hg hm hp ?_) ?_
  · refine fun X hX S ps σ H hc he Q kk => h X hX S ps σ H hc he Q fun S1 ps1 H1 C1 us ds e1 c1 o1 ⟨n, f, h1, h2, h3, h4, h5⟩ => kk S1 ps1 H1 C1 us ds e1 c1 o1 ⟨n, h1, by omega, h3, n, f, h2, rfl, fun _ => trivial, h4, h5⟩
  · rintro xs G C1 ⟨n, f, hn, rfl, hG, hst, hP⟩
    refine ⟨by simp; omega, fun i acc Cp => Cp = C1 ∧ acc = ((List.range i).map f).map .dat, ⟨rfl, rfl⟩, fun i acc Cp _ _ => hG _, ?_, ?_⟩
    · rintro i d acc Cp hd _ ⟨rfl, rfl⟩
      rw [List.getElem?_map] at hd
      have hl : i < n.toNat := by
        by_cases z : i < n.toNat
        · exact z
        · rw [List.getElem?_eq_none (by simp; omega)] at hd
          cases hd
      rw [List.getElem?_range hl] at hd
      have e : DI (0 + (i : Int)) = d := Option.some.inj hd
      subst e
      refine gv_name j hv hN hx (efs_nil ⟨fun _ => ?_, fun z => nomatch z⟩)
      rw [Int.zero_add]
      refine (hst i _ (by omega)).mono ?_
      rintro z C4 ⟨rfl, rfl⟩
      refine ⟨Cp, rfl, rfl, rfl, ?_⟩
      rw [List.range_succ, List.map_append, List.map_append]
      rfl
    · rintro acc Cp _ ⟨rfl, rfl⟩
      have : ((List.range n.toNat).map fun (i : Nat) => DI (0 + (i : Int))).length = n.toNat := by simp
      rw [this]
      exact hP
/-- [.. for x in e], each item data -/
theorem lc_items {scope : Scope} (j : Nat) (hv : j ∈ vs) (hN : c.N[j]? = some x) (hx : locB (relS scope c.sc) (fun y => scope.names.lookup y == some .cell) x = true)
    (h : Ev c e ρ C fun d C1 => ∃ (xs : List Den) (f : Nat → PyData), items C1 d = some xs ∧ xs.length ≤ 900000 ∧ (∀ acc, items (C1 ++ [.lst acc]) d = some xs) ∧ (∀ (i : Nat) w acc, xs[i]? = some w → Ev (c.blk scope) elt ((forg ρ vs).set j (some w)) (C1 ++ [.lst acc]) fun z C4 => z = .dat (f i) ∧ C1 ++ [.lst acc] = C4) ∧ P (.own C1.length) (C1 ++ [.lst (((List.range xs.length).map f).map .dat)])) :
    Lc c scope vs elt (.Name x px) e [] ρ C P := by
  refine lc_gen (PI0 := fun xs G C1 => ∃ (f : Nat → PyData), xs.length ≤ 900000 ∧ (∀ acc, G (C1 ++ [.lst acc])) ∧ (∀ (i : Nat) w acc, xs[i]? = some w → Ev (c.blk scope) elt ((forg ρ vs).set j (some w)) (C1 ++ [.lst acc]) fun z C4 => z = .dat (f i) ∧ C1 ++ [.lst acc] = C4) ∧ P (.own C1.length) (C1 ++ [.lst (((List.range xs.length).map f).map .dat)])) (ei_seq ?_) ?_
  · refine fun X hX S ps σ H hc he Q kk => h X hX S ps σ H hc he Q fun S1 ps1 H1 C1 us ds e1 c1 o1 ⟨xs, f, h1, h2, h3, h4, h5⟩ => kk S1 ps1 H1 C1 us ds e1 c1 o1 ⟨xs, h1, f, h2, h3, h4, h5⟩
  · rintro xs G C1 ⟨f, hn, hG, hst, hP⟩
    refine ⟨hn, fun i acc Cp => Cp = C1 ∧ acc = ((List.range i).map f).map .dat, ⟨rfl, rfl⟩, ?_, ?_, ?_⟩
    · rintro i acc Cp ⟨rfl, rfl⟩ _
      exact hG _
    · rintro i d acc Cp hd _ ⟨rfl, rfl⟩
      refine gv_name j hv hN hx (efs_nil ⟨fun _ => ?_, fun z => nomatch z⟩)
      refine (hst i d _ hd).mono ?_
      rintro z C4 ⟨rfl, rfl⟩
      refine ⟨Cp, rfl, rfl, rfl, ?_⟩
      rw [List.range_succ, List.map_append, List.map_append]
      rfl
    · rintro acc Cp _ ⟨rfl, rfl⟩
      exact hP
end
end DL
/-! DL, ninth part: what is built in, by its name -/
namespace DL
open PySem PySem.Spec PyProof.Rows L2
section
variable {c : Cfg} {ρ : DEnv} {C : List Cont} {P : Den → List Cont → Prop} {e : Expr} {es : List Expr} {pos p : Pos}
theorem bt_len : bootBuiltins "len" = some (.builtin "len") := by kernel_rfl
theorem ev_len (hg : glB c.sc "len" = true) (hm : c.g.mg "len" = none) (hp : plainArgs (e :: es) = true) (h : Ea c (e :: es) ρ C fun ds C1 => Op c (.f (.builtin "len")) ds C1 P) : Ev c (.Call (.Name "len" p) (e :: es) [] pos) ρ C P := ev_callB hg hm bt_len (by decide +kernel) hp h
theorem bt_min : bootBuiltins "min" = some (.builtin "min") := by kernel_rfl
theorem ev_min (hg : glB c.sc "min" = true) (hm : c.g.mg "min" = none) (hp : plainArgs (e :: es) = true) (h : Ea c (e :: es) ρ C fun ds C1 => Op c (.f (.builtin "min")) ds C1 P) : Ev c (.Call (.Name "min" p) (e :: es) [] pos) ρ C P := ev_callB hg hm bt_min (by decide +kernel) hp h
theorem bt_max : bootBuiltins "max" = some (.builtin "max") := by kernel_rfl
theorem ev_max (hg : glB c.sc "max" = true) (hm : c.g.mg "max" = none) (hp : plainArgs (e :: es) = true) (h : Ea c (e :: es) ρ C fun ds C1 => Op c (.f (.builtin "max")) ds C1 P) : Ev c (.Call (.Name "max" p) (e :: es) [] pos) ρ C P := ev_callB hg hm bt_max (by decide +kernel) hp h
theorem bt_sum : bootBuiltins "sum" = some (.builtin "sum") := by kernel_rfl
theorem ev_sum (hg : glB c.sc "sum" = true) (hm : c.g.mg "sum" = none) (hp : plainArgs (e :: es) = true) (h : Ea c (e :: es) ρ C fun ds C1 => Op c (.f (.builtin "sum")) ds C1 P) : Ev c (.Call (.Name "sum" p) (e :: es) [] pos) ρ C P := ev_callB hg hm bt_sum (by decide +kernel) hp h
theorem bt_abs : bootBuiltins "abs" = some (.builtin "abs") := by kernel_rfl
theorem ev_abs (hg : glB c.sc "abs" = true) (hm : c.g.mg "abs" = none) (hp : plainArgs (e :: es) = true) (h : Ea c (e :: es) ρ C fun ds C1 => Op c (.f (.builtin "abs")) ds C1 P) : Ev c (.Call (.Name "abs" p) (e :: es) [] pos) ρ C P := ev_callB hg hm bt_abs (by decide +kernel) hp h
theorem bt_all : bootBuiltins "all" = some (.builtin "all") := by kernel_rfl
theorem ev_all (hg : glB c.sc "all" = true) (hm : c.g.mg "all" = none) (hp : plainArgs (e :: es) = true) (h : Ea c (e :: es) ρ C fun ds C1 => Op c (.f (.builtin "all")) ds C1 P) : Ev c (.Call (.Name "all" p) (e :: es) [] pos) ρ C P := ev_callB hg hm bt_all (by decide +kernel) hp h
theorem bt_any : bootBuiltins "any" = some (.builtin "any") := by kernel_rfl
theorem ev_any (hg : glB c.sc "any" = true) (hm : c.g.mg "any" = none) (hp : plainArgs (e :: es) = true) (h : Ea c (e :: es) ρ C fun ds C1 => Op c (.f (.builtin "any")) ds C1 P) : Ev c (.Call (.Name "any" p) (e :: es) [] pos) ρ C P := ev_callB hg hm bt_any (by decide +kernel) hp h
theorem bt_repr : bootBuiltins "repr" = some (.builtin "repr") := by kernel_rfl
theorem ev_repr (hg : glB c.sc "repr" = true) (hm : c.g.mg "repr" = none) (hp : plainArgs (e :: es) = true) (h : Ea c (e :: es) ρ C fun ds C1 => Op c (.f (.builtin "repr")) ds C1 P) : Ev c (.Call (.Name "repr" p) (e :: es) [] pos) ρ C P := ev_callB hg hm bt_repr (by decide +kernel) hp h
theorem bt_isinstance : bootBuiltins "isinstance" = some (.builtin "isinstance") := by kernel_rfl
theorem ev_isinstance (hg : glB c.sc "isinstance" = true) (hm : c.g.mg "isinstance" = none) (hp : plainArgs (e :: es) = true) (h : Ea c (e :: es) ρ C fun ds C1 => Op c (.f (.builtin "isinstance")) ds C1 P) : Ev c (.Call (.Name "isinstance" p) (e :: es) [] pos) ρ C P := ev_callB hg hm bt_isinstance (by decide +kernel) hp h
theorem bt_sorted : bootBuiltins "sorted" = some (.builtin "sorted") := by kernel_rfl
theorem ev_sorted (hg : glB c.sc "sorted" = true) (hm : c.g.mg "sorted" = none) (hp : plainArgs (e :: es) = true) (h : Ea c (e :: es) ρ C fun ds C1 => Op c (.f (.builtin "sorted")) ds C1 P) : Ev c (.Call (.Name "sorted" p) (e :: es) [] pos) ρ C P := ev_callB hg hm bt_sorted (by decide +kernel) hp h
theorem bt_tuple : bootBuiltins "tuple" = some (.type "tuple") := by kernel_rfl
theorem ev_tupleC (hg : glB c.sc "tuple" = true) (hm : c.g.mg "tuple" = none) (hp : plainArgs (e :: es) = true) (h : Ea c (e :: es) ρ C fun ds C1 => Op c (.f (.type "tuple")) ds C1 P) : Ev c (.Call (.Name "tuple" p) (e :: es) [] pos) ρ C P := ev_callT hg hm bt_tuple (by decide +kernel) hp h
theorem ev_tupleY (hg : glB c.sc "tuple" = true) (hm : c.g.mg "tuple" = none) (h : P (.ty "tuple") C) : Ev c (.Name "tuple" pos) ρ C P := ev_ty hg hm bt_tuple (by decide +kernel) h
theorem bt_list : bootBuiltins "list" = some (.type "list") := by kernel_rfl
theorem ev_listC (hg : glB c.sc "list" = true) (hm : c.g.mg "list" = none) (hp : plainArgs (e :: es) = true) (h : Ea c (e :: es) ρ C fun ds C1 => Op c (.f (.type "list")) ds C1 P) : Ev c (.Call (.Name "list" p) (e :: es) [] pos) ρ C P := ev_callT hg hm bt_list (by decide +kernel) hp h
theorem ev_listY (hg : glB c.sc "list" = true) (hm : c.g.mg "list" = none) (h : P (.ty "list") C) : Ev c (.Name "list" pos) ρ C P := ev_ty hg hm bt_list (by decide +kernel) h
theorem bt_int : bootBuiltins "int" = some (.type "int") := by kernel_rfl
theorem ev_intC (hg : glB c.sc "int" = true) (hm : c.g.mg "int" = none) (hp : plainArgs (e :: es) = true) (h : Ea c (e :: es) ρ C fun ds C1 => Op c (.f (.type "int")) ds C1 P) : Ev c (.Call (.Name "int" p) (e :: es) [] pos) ρ C P := ev_callT hg hm bt_int (by decide +kernel) hp h
theorem ev_intY (hg : glB c.sc "int" = true) (hm : c.g.mg "int" = none) (h : P (.ty "int") C) : Ev c (.Name "int" pos) ρ C P := ev_ty hg hm bt_int (by decide +kernel) h
theorem bt_set : bootBuiltins "set" = some (.type "set") := by kernel_rfl
theorem ev_setC (hg : glB c.sc "set" = true) (hm : c.g.mg "set" = none) (hp : plainArgs (e :: es) = true) (h : Ea c (e :: es) ρ C fun ds C1 => Op c (.f (.type "set")) ds C1 P) : Ev c (.Call (.Name "set" p) (e :: es) [] pos) ρ C P := ev_callT hg hm bt_set (by decide +kernel) hp h
theorem ev_setY (hg : glB c.sc "set" = true) (hm : c.g.mg "set" = none) (h : P (.ty "set") C) : Ev c (.Name "set" pos) ρ C P := ev_ty hg hm bt_set (by decide +kernel) h
theorem bt_dict : bootBuiltins "dict" = some (.type "dict") := by kernel_rfl
theorem ev_dictC (hg : glB c.sc "dict" = true) (hm : c.g.mg "dict" = none) (hp : plainArgs (e :: es) = true) (h : Ea c (e :: es) ρ C fun ds C1 => Op c (.f (.type "dict")) ds C1 P) : Ev c (.Call (.Name "dict" p) (e :: es) [] pos) ρ C P := ev_callT hg hm bt_dict (by decide +kernel) hp h
theorem ev_dictY (hg : glB c.sc "dict" = true) (hm : c.g.mg "dict" = none) (h : P (.ty "dict") C) : Ev c (.Name "dict" pos) ρ C P := ev_ty hg hm bt_dict (by decide +kernel) h
/-! what a goal is of -/
theorem is_ev (h : Ev c e ρ C P) : Ev c e ρ C P := h
theorem is_ea {PL : List Den → List Cont → Prop} (h : Ea c es ρ C PL) : Ea c es ρ C PL := h
theorem is_et {PB : Bool → List Cont → Prop} (h : Et c e ρ C PB) : Et c e ρ C PB := h
theorem is_ew {PB : Bool → List Cont → Prop} (h : Ew c e ρ C PB) : Ew c e ρ C PB := h
theorem is_op {r : Rd} {ds : List Den} (h : Op c r ds C P) : Op c r ds C P := h
theorem op_isx {ds : List Den} (h : Op c .x ds C P) : Op c .x ds C P := h
theorem op_isf {v : Value} {ds : List Den} (h : Op c (.f v) ds C P) : Op c (.f v) ds C P := h
theorem op_isb {o : Operator} {ds : List Den} (h : Op c (.b o) ds C P) : Op c (.b o) ds C P := h
theorem op_isc {o : CmpOp} {ds : List Den} (h : Op c (.c o) ds C P) : Op c (.c o) ds C P := h
theorem op_islen {ds : List Den} (h : Op c (.f (.builtin "len")) ds C P) : Op c (.f (.builtin "len")) ds C P := h
theorem is_for {tg iter : Expr} {body els : List Stmt} {D : DEnds} (h : S1 c (.For tg iter body els pos) ρ C D) : S1 c (.For tg iter body els pos) ρ C D := h
theorem is_asg {tgs : List Expr} {D : DEnds} (h : S1 c (.Assign tgs e pos) ρ C D) : S1 c (.Assign tgs e pos) ρ C D := h
theorem is_aug {tg : Expr} {o : Operator} {D : DEnds} (h : S1 c (.AugAssign tg o e pos) ρ C D) : S1 c (.AugAssign tg o e pos) ρ C D := h
theorem is_ss {sts : List Stmt} {D : DEnds} (h : Ss c sts ρ C D) : Ss c sts ρ C D := h
theorem is_s1 {st : Stmt} {D : DEnds} (h : S1 c st ρ C D) : S1 c st ρ C D := h
theorem is_gv {vs : List Nat} {tg : Expr} {d : Den} {PE' : DEnv → List Cont → Prop} (h : Gv c vs tg d ρ C PE') : Gv c vs tg d ρ C PE' := h
theorem is_call {f : Expr} (h : Ev c (.Call f es [] pos) ρ C P) : Ev c (.Call f es [] pos) ρ C P := h
theorem ev_nm {x : Str} (h : ∃ (i : Nat) (d : Den), c.N[i]? = some x ∧ (visB c.sc x && okName x) = true ∧ ρ[i]? = some (some d) ∧ P d C) : Ev c (.Name x pos) ρ C P := by
  obtain ⟨i, d, h1, h2, h3, h4⟩ := h
  exact ev_name i h1 h2 h3 h4
theorem s1_st {x : Str} {D : DEnds} (hn : notComp e = true) (h : ∃ i : Nat, c.N[i]? = some x ∧ locB c.sc c.fnm x = true ∧ Ev c e ρ C fun d C1 => D.nx (ρ.set i (some d)) C1) : S1 c (.Assign [.Name x p] e pos) ρ C D := by
  obtain ⟨i, h1, h2, h3⟩ := h
  exact s1_set i h1 h2 hn h3
end
end DL
/-! DL, tenth part: rows of whole numbers changed in place -/
namespace DL
open PySem PySem.Spec PyProof.Rows L2
section
variable {c : Cfg} {ρ : DEnv} {C : List Cont} {P : Den → List Cont → Prop} {a b e o i : Expr} {pos tp : Pos} {D : DEnds}
theorem ixN_at {n : Nat} {i : Int} (h0 : 0 ≤ i) (h1 : i < n) : ixN n i = some i.toNat := by
  unfold ixN
  rw [if_pos h0, if_pos h1]
theorem ints_at {ns : List Int} {j : Nat} (h : j < ns.length) : (ns.map DI)[j]? = some (DI (ns.getD j 0)) := by
  rw [List.getElem?_map, List.getElem?_eq_getElem h, List.getD_eq_getElem?_getD, List.getElem?_eq_getElem h]
  rfl
theorem map_set_DI (ns : List Int) (j : Nat) (m : Int) : (ns.map DI).set j (DI m) = (ns.set j m).map DI := by
  rw [List.map_set]
/-- xs[i] op= e -/
theorem s1_augI {op : Operator} (h : Ev c o ρ C fun d1 C1 => Ev c i ρ C1 fun d2 C2 => ∃ (k : Nat) (ns : List Int) (n : Int), d1 = .own k ∧ d2 = DI n ∧ C2[k]? = some (.lst (ns.map DI)) ∧ 0 ≤ n ∧ n < ns.length ∧
      Ev c e ρ C2 fun d3 C3 => C3[k]? = some (.lst (ns.map DI)) ∧ Op c (.i op) [DI (ns.getD n.toNat 0), d3] C3 fun d4 C4 => ∃ m, d4 = DI m ∧ C4[k]? = some (.lst (ns.map DI)) ∧ D.nx ρ (C4.set k (.lst ((ns.set n.toNat m).map DI))))
    (ha : ∀ ov iv new, augStore i ov iv new = (do holding [new, ov, iv] (setItem ov iv new); release [new, ov, iv] []; pure .next) := by intro _ _ _; rfl) : S1 c (.AugAssign (.Subscript o i tp) op e pos) ρ C D := by
  refine s1_augS ha (h.mono fun d1 C1 h1 => h1.mono fun d2 C2 ⟨k, ns, n, e1, e2, h2, h3, h4, h5⟩ => ⟨k, ns.map DI, n, n.toNat, DI (ns.getD n.toNat 0), e1, e2, h2, ?_, ints_at (by omega), ?_⟩)
  · rw [List.length_map]
    exact ixN_at h3 h4
  · refine h5.mono fun d3 C3 ⟨g1, g2⟩ => ⟨g1, g2.mono ?_⟩
    rintro d4 C4 ⟨m, rfl, g3, g4⟩
    refine ⟨g3, ?_⟩
    rw [map_set_DI]
    exact g4
/-- xs[i] = e -/
theorem s1_subI (h : Ev c e ρ C fun d C1 => Ev c o ρ C1 fun d1 C2 => Ev c i ρ C2 fun d2 C3 => ∃ (k : Nat) (ns : List Int) (n m : Int), d = DI m ∧ d1 = .own k ∧ d2 = DI n ∧ C3[k]? = some (.lst (ns.map DI)) ∧ 0 ≤ n ∧ n < ns.length ∧ D.nx ρ (C3.set k (.lst ((ns.set n.toNat m).map DI))))
    (hs : ∀ env, swapsWithSole [.Subscript o i tp] e pos.line env = pure false := by intro _; rfl) (hw : ∀ env : Env, env.scope = c.sc → swappedStores [.Subscript o i tp] e env = pure none := by intro _ _; rfl) (ha : ∀ env, (assignEach [.Subscript o i tp] env).map (·.2) = [assign (.Subscript o i tp) env] := by intro _; rfl)
    (hb : ∀ (env : Env) v, assign (.Subscript o i tp) env v = (do
      let ov ← holding [v] (eval o env)
      let iv ← holding [v, ov] (eval i env)
      standAt tp
      holding [v, ov, iv] (setItem ov iv v)
      release [v, ov, iv] []) := by intro _ _; rfl) : S1 c (.Assign [.Subscript o i tp] e pos) ρ C D := by
  refine s1_asg (vs := []) hs hw ha (h.mono fun d C1 h1 => gv_sub hb (h1.mono fun d1 C2 h2 => h2.mono ?_))
  rintro d2 C3 ⟨k, ns, n, m, rfl, e1, e2, h3, h4, h5, h6⟩
  refine ⟨k, ns.map DI, n, n.toNat, e1, e2, h3, ?_, ?_⟩
  · rw [List.length_map]
    exact ixN_at h4 h5
  · rw [map_set_DI]
    exact h6
theorem o_repI {d1 : Den} {m n : Int} (hx : items C d1 = some [DI m]) (h1 : -(2 ^ 62) ≤ n) (h2 : n ≤ 1000000) (h : P (.own C.length) (C ++ [.lst ((List.replicate n.toNat m).map DI)])) (l1 : isL d1 = true := by rfl) : Op c (.b .Mult) [d1, DI n] C P := by
  refine o_rep l1 hx (by omega) (by omega) (by simp; omega) ?_
  rw [rep_one, ← List.map_replicate]
  exact h
theorem o_catI {d1 d2 : Den} {xs ys : List Int} (hx : items C d1 = some (xs.map DI)) (hy : items C d2 = some (ys.map DI)) (hz : xs.length + ys.length ≤ 1000000) (h : P (.own C.length) (C ++ [.lst ((xs ++ ys).map DI)])) (l1 : isL d1 = true := by rfl) (l2 : isL d2 = true := by rfl) : Op c (.b .Add) [d1, d2] C P := by
  refine o_cat l1 l2 hx hy (by rw [List.length_map, List.length_map]; exact hz) ?_
  rw [← List.map_append]
  exact h
theorem intl_get {xs : List Int} {n : Nat} {z : PyData} (h : (intl xs)[n]? = some z) : n < xs.length ∧ z = .int (xs.getD n 0) := by
  have hl := (List.getElem?_eq_some_iff.mp h).1
  rw [List.length_map] at hl
  rw [List.getElem?_map, List.getElem?_eq_getElem hl] at h
  refine ⟨hl, ?_⟩
  rw [List.getD_eq_getElem?_getD, List.getElem?_eq_getElem hl]
  exact (Option.some.inj h).symm
theorem intl_len (xs : List Int) : (intl xs).length = xs.length := List.length_map ..
theorem items_R {C : List Cont} (xs : List Int) : items C (.rdl (intl xs)) = some (xs.map DI) := by
  show some ((intl xs).map Den.dat) = _
  rw [intl_dat]
theorem eo_none {PO' : Option Int → List Cont → Prop} (h : PO' none C) : Eo c none ρ C PO' := h
theorem eo_some {PO' : Option Int → List Cont → Prop} (h : Ev c e ρ C fun d C1 => ∃ i, d = DI i ∧ PO' (some i) C1) : Eo c (some e) ρ C PO' := h
theorem cut_to {α : Type} (xs : List α) (n : Nat) : cut xs none (some (n : Int)) = xs.take n := by
  unfold cut
  rw [HT.sIx_none, HT.sIx_nat, List.drop_zero, Nat.sub_zero]
  by_cases h : n ≤ xs.length
  · rw [Nat.min_eq_left h]
  · rw [Nat.min_eq_right (by omega), List.take_of_length_le (by omega), List.take_of_length_le (by omega)]
theorem cut_from {α : Type} (xs : List α) (n : Nat) : cut xs (some (n : Int)) none = xs.drop n := by
  unfold cut
  rw [HT.sIx_none, HT.sIx_nat]
  by_cases h : n ≤ xs.length
  · rw [Nat.min_eq_left h, List.take_of_length_le (by rw [List.length_drop]; exact Nat.le_refl _)]
  · rw [Nat.min_eq_right (by omega), Nat.sub_self, List.take_zero, List.drop_eq_nil_of_le (by omega)]
/-- a slice of a row -/
theorem sl_intsT {xs : List Int} {l u : Option Int} (h : P (DTu (intl (cut xs l u))) C) : (∃ ys, DTu (intl xs) = DTu ys ∧ P (DTu (cut ys l u)) C) ∨ ∃ ys, isT (DTu (intl xs)) = false ∧ items C (DTu (intl xs)) = some ys ∧ P (.own C.length) (C ++ [.lst (cut ys l u)]) := .inl ⟨_, rfl, by rw [cut_map]; exact h⟩
theorem sl_intsL {k : Nat} {xs : List Int} {l u : Option Int} (hx : C[k]? = some (.lst (xs.map DI))) (h : P (.own C.length) (C ++ [.lst ((cut xs l u).map DI)])) : (∃ ys, Den.own k = DTu ys ∧ P (DTu (cut ys l u)) C) ∨ ∃ ys, isT (.own k) = false ∧ items C (.own k) = some ys ∧ P (.own C.length) (C ++ [.lst (cut ys l u)]) := .inr ⟨_, rfl, items_own hx, by rw [cut_map]; exact h⟩
theorem o_eqS {x y : Str} (h : P (DB (decide (x = y))) C) : Op c (.c .Eq) [DS x, DS y] C P := op_2 fun X hX S ps H v w hc r1 r2 Q k => by
  cases r1
  cases r2
  have e : decide (V.str x = V.str y) = decide (x = y) := by
    by_cases hij : x = y
    · subst hij; simp
    · rw [decide_eq_false hij, decide_eq_false fun z => hij (V.str.inj z)]
  refine ⟨_, _, rfl, _, op_eq, rfl, k S ps H C _ (DB _) .refl hc ?_ h⟩
  rw [← e]
  exact Rp.bl _
theorem sw_env {sc : Scope} {tgs : List Expr} {r : Sem (Option (List Str))} (h : ∀ l gl cs q f co fr b, swappedStores tgs e ⟨sc, l, gl, cs, q, f, co, fr, b⟩ = r) (env : Env) (he : env.scope = sc) : swappedStores tgs e env = r := by
  obtain ⟨s, l, gl, cs, q, f, co, fr, b⟩ := env
  have he : s = sc := he
  subst he
  exact h l gl cs q f co fr b
theorem getD_set_same {ns : List Int} {j : Nat} {m : Int} (h : j < ns.length) : (ns.set j m).getD j 0 = m := by
  rw [List.getD_eq_getElem?_getD, List.getElem?_set_self h]
  rfl
theorem getD_set_ne {ns : List Int} {j k : Nat} {m : Int} (h : j ≠ k) : (ns.set j m).getD k 0 = ns.getD k 0 := by
  rw [List.getD_eq_getElem?_getD, List.getElem?_set_ne h, ← List.getD_eq_getElem?_getD]
theorem getD_mem {xs : List Int} {i : Nat} (h : i < xs.length) : xs.getD i 0 ∈ xs := by
  rw [List.getD_eq_getElem?_getD, List.getElem?_eq_getElem h]
  exact List.getElem_mem h
end
end DL
/-! DL, eleventh part: the law's own end -/
namespace DL
open PySem PySem.Spec PyProof.Rows L2
theorem ints_rp {K : PySem.W.Frag} {S : Hp} : ∀ ns : List Int, RpAll K S (ns.map V.int) (intl ns)
  | [] => .nil
  | n :: ns => .cons (Rp.int n) (ints_rp ns)
/-- what the head leaves, from the law's promise -/
theorem walkD {l : PySem.W.OpenLaw} {n k : Nat} {q : Program} {loose : List Str} {XP : (Str → Option Value) → Heap → Prop} {YP : World → Heap → Prop} {d : DefRec} {ds : DSpec}
    (hn : l.most = some n) (hn2 : n ≤ sizeLine) (hdf : d.params.defaults = []) (hr : Room k callerA) (hds : ∀ (ns : List Int) (P : Den → List Cont → Prop), ns.length ≤ n → P (DB true) [] → ds [.rdl (intl ns)] [] P)
    (F : ∀ (w : World) (mg : Str → Option Value) (h : Heap), YP w h → h.Ns mainGlobals mg → ∃ K : PySem.W.Frag, K.In h ∧ ∀ base : Heap, K.In base → base.Ns mainGlobals mg → FnD ⟨l.prog, w, K, mg, base⟩ d.name k ds) :
    PySem.W.WalkO q loose XP YP l.row.toRowW d [] (fun f vs => PySem.call f vs) := by
  refine walkG hn hn2 hdf hr fun w mg fa h Y G hmg => ?_
  obtain ⟨K, KX, hF⟩ := F w mg h Y G
  refine ⟨K, KX, spOf K ds, fun H a ns hl hS => ?_, fun base hb hg => ?_⟩
  · have c0 : Core K H [] [] H := ⟨Same.refl H, .nil, rfl, fun k p x h => by simp at h, fun k p x h => by simp at h⟩
    refine ⟨H, [], [], [.rdl (intl ns)], c0, .cons ⟨a, ns.map V.int, rfl, hS, ints_rp ns⟩ .nil, hds ns _ hl fun S' ps' H' v e c o => ?_⟩
    cases o
    rfl
  · obtain ⟨f, fd, ps, h1, h2, h3, h4⟩ := (hF base hb hg).ex
    have e : f = fa := by
      have := h2.symm.trans hmg
      cases this
      rfl
    subst e
    exact ⟨fd, ps, h1, h4⟩
end DL
namespace DL
open PySem PySem.Spec PyProof.Rows L2
local macro_rules
  | `(tactic| walk_at $s:str) => do
    match s.getString with
    | "nm" => `(tactic| first | refine ⟨0, _, rfl, rfl, rfl, ?_⟩ | refine ⟨1, _, rfl, rfl, rfl, ?_⟩ | refine ⟨2, _, rfl, rfl, rfl, ?_⟩ | refine ⟨3, _, rfl, rfl, rfl, ?_⟩ | refine ⟨4, _, rfl, rfl, rfl, ?_⟩ | refine ⟨5, _, rfl, rfl, rfl, ?_⟩ | refine ⟨6, _, rfl, rfl, rfl, ?_⟩ | refine ⟨7, _, rfl, rfl, rfl, ?_⟩ | refine ⟨8, _, rfl, rfl, rfl, ?_⟩ | refine ⟨9, _, rfl, rfl, rfl, ?_⟩ | refine ⟨10, _, rfl, rfl, rfl, ?_⟩ | refine ⟨11, _, rfl, rfl, rfl, ?_⟩ | refine ⟨12, _, rfl, rfl, rfl, ?_⟩ | refine ⟨13, _, rfl, rfl, rfl, ?_⟩ | refine ⟨14, _, rfl, rfl, rfl, ?_⟩ | refine ⟨15, _, rfl, rfl, rfl, ?_⟩ | refine ⟨16, _, rfl, rfl, rfl, ?_⟩ | refine ⟨17, _, rfl, rfl, rfl, ?_⟩ | refine ⟨18, _, rfl, rfl, rfl, ?_⟩ | refine ⟨19, _, rfl, rfl, rfl, ?_⟩ | refine ⟨20, _, rfl, rfl, rfl, ?_⟩ | refine ⟨21, _, rfl, rfl, rfl, ?_⟩)
    | "set" => `(tactic| first | refine ⟨0, rfl, rfl, ?_⟩ | refine ⟨1, rfl, rfl, ?_⟩ | refine ⟨2, rfl, rfl, ?_⟩ | refine ⟨3, rfl, rfl, ?_⟩ | refine ⟨4, rfl, rfl, ?_⟩ | refine ⟨5, rfl, rfl, ?_⟩ | refine ⟨6, rfl, rfl, ?_⟩ | refine ⟨7, rfl, rfl, ?_⟩ | refine ⟨8, rfl, rfl, ?_⟩ | refine ⟨9, rfl, rfl, ?_⟩ | refine ⟨10, rfl, rfl, ?_⟩ | refine ⟨11, rfl, rfl, ?_⟩ | refine ⟨12, rfl, rfl, ?_⟩ | refine ⟨13, rfl, rfl, ?_⟩ | refine ⟨14, rfl, rfl, ?_⟩ | refine ⟨15, rfl, rfl, ?_⟩ | refine ⟨16, rfl, rfl, ?_⟩ | refine ⟨17, rfl, rfl, ?_⟩ | refine ⟨18, rfl, rfl, ?_⟩ | refine ⟨19, rfl, rfl, ?_⟩ | refine ⟨20, rfl, rfl, ?_⟩ | refine ⟨21, rfl, rfl, ?_⟩)
    | "gv" => `(tactic| first | refine gv_name 0 (by decide) rfl rfl ?_ | refine gv_name 1 (by decide) rfl rfl ?_ | refine gv_name 2 (by decide) rfl rfl ?_ | refine gv_name 3 (by decide) rfl rfl ?_ | refine gv_name 4 (by decide) rfl rfl ?_ | refine gv_name 5 (by decide) rfl rfl ?_ | refine gv_name 6 (by decide) rfl rfl ?_ | refine gv_name 7 (by decide) rfl rfl ?_ | refine gv_name 8 (by decide) rfl rfl ?_ | refine gv_name 9 (by decide) rfl rfl ?_ | refine gv_name 10 (by decide) rfl rfl ?_ | refine gv_name 11 (by decide) rfl rfl ?_ | refine gv_name 12 (by decide) rfl rfl ?_ | refine gv_name 13 (by decide) rfl rfl ?_ | refine gv_name 14 (by decide) rfl rfl ?_ | refine gv_name 15 (by decide) rfl rfl ?_ | refine gv_name 16 (by decide) rfl rfl ?_ | refine gv_name 17 (by decide) rfl rfl ?_ | refine gv_name 18 (by decide) rfl rfl ?_ | refine gv_name 19 (by decide) rfl rfl ?_ | refine gv_name 20 (by decide) rfl rfl ?_ | refine gv_name 21 (by decide) rfl rfl ?_)
    | "call" => `(tactic| first | refine ev_append ?_ | refine ev_len rfl (FreeB.at (by assumption) rfl) rfl ?_ | refine ev_min rfl (FreeB.at (by assumption) rfl) rfl ?_ | refine ev_max rfl (FreeB.at (by assumption) rfl) rfl ?_ | refine ev_sum rfl (FreeB.at (by assumption) rfl) rfl ?_ | refine ev_abs rfl (FreeB.at (by assumption) rfl) rfl ?_ | refine ev_all rfl (FreeB.at (by assumption) rfl) rfl ?_ | refine ev_any rfl (FreeB.at (by assumption) rfl) rfl ?_ | refine ev_repr rfl (FreeB.at (by assumption) rfl) rfl ?_ | refine ev_isinstance rfl (FreeB.at (by assumption) rfl) rfl ?_ | refine ev_tupleC rfl (FreeB.at (by assumption) rfl) rfl ?_ | refine ev_listC rfl (FreeB.at (by assumption) rfl) rfl ?_ | refine ev_intC rfl (FreeB.at (by assumption) rfl) rfl ?_)
    | "e" => `(tactic| (refine is_ev ?_; first | refine ev_int ?_ | (refine ev_nm ?_; walk_at "nm") | refine ev_bin ?_ | refine ev_cmp rfl ?_ | refine ev_slice ?_ | refine ev_ix (fun _ _ => rfl) ?_ | (refine is_call ?_; walk_at "call") | refine ev_str ?_ | refine ev_none ?_ | refine ev_bool ?_ | refine ev_list ?_ | refine ev_tup ?_ | refine ev_if ?_ | refine ev_un ?_))
    | "sl" => `(tactic| first | refine eo_none ?_ | refine eo_some ?_)
    | "a" => `(tactic| (refine is_ea ?_; first | refine ea_cons rfl ?_ | refine ea_nil ?_))
    | "o" => `(tactic| (refine is_op ?_; first | (refine op_isb ?_; first | refine o_add ?_ | refine o_sub ?_ | refine o_mul (MulOk.r (by decide) (by decide)) ?_ | refine o_mul (MulOk.l (by decide) (by decide)) ?_ | refine o_mod (by decide) ?_ | refine o_div (by decide) (by decide) ?_) | (refine op_isc ?_; first | refine o_lt ?_ | refine o_le ?_ | refine o_gt ?_ | refine o_ge ?_ | refine o_eqI ?_ | refine o_neI ?_) | (refine op_isx ?_; first | refine x_ints (items_own rfl) (by omega) (by first | omega | (simp only [List.length_set]; omega)) ?_ | refine x_ints (items_T _) (by omega) (by omega) ?_ | refine x_ints (items_R _) (by omega) (by omega) ?_) | (refine op_isf ?_; first | (refine op_islen ?_; first | refine c_lenI (items_T _) ?_ | refine c_lenI (items_R _) ?_ | refine c_lenI (items_own rfl) ?_) | refine c_min2 ?_ | refine c_max2 ?_ | refine c_abs ?_ | refine c_intB ?_) | refine i_add ?_ | refine i_sub ?_ | refine o_neg ?_))
    | "s" => `(tactic| first | (refine is_ss ?_; first | refine ss_one ?_ | refine ss_cons ?_ | refine ss_nil ?_) | (refine is_s1 ?_; first | (refine is_asg ?_; first | (refine s1_st rfl ?_; walk_at "set") | refine s1_subI ?_) | (refine is_aug ?_; refine s1_augI ?_) | refine s1_ret ?_ | refine s1_if ?_ | refine s1_expr rfl ?_))
    | "t" => `(tactic| first | (refine is_et ?_; first | refine et_cmp rfl ?_ | refine et_not ?_ | refine et_bool ?_) | (refine is_ew ?_; first | refine ew_and ?_ | refine ew_and1 ?_ | refine ew_or ?_ | refine ew_or1 ?_))
    | "g" => `(tactic| repeat (first | walk_at "e" | walk_at "a" | walk_at "o" | walk_at "sl" | walk_at "s" | walk_at "t" | (refine is_gv ?_; walk_at "gv")))
    | "x" => `(tactic| repeat (first | walk_at "e" | walk_at "a" | walk_at "o" | walk_at "sl" | walk_at "t" | (refine is_gv ?_; walk_at "gv")))
    | "ok" => `(tactic| simp only [List.all_cons, List.all_nil, List.cons_append, List.nil_append, List.set_cons_zero, List.set_cons_succ, List.take_succ_cons, List.take_zero, List.take_nil, okC_app, okC_one, okC_DI, okC_dat, okC_nil, Bool.and_true, Bool.and_self])
    | _ => Lean.Macro.throwUnsupported
/-! the law's text: its defs -/
def top (i : Nat) : Stmt := PySem.Challenge.pw_partrests_k18_rows_multiplied.main.body.getD i (.Pass ⟨0, 0, 0, 0⟩)
abbrev freeB : List Str := ["len", "range", "min", "sum", "tuple", "enumerate", "abs", "int", "isinstance", "repr"]
abbrev st_times : Stmt := top 1
abbrev st_put_on : Stmt := top 3
abbrev st_taken_off : Stmt := top 4
abbrev st_product : Stmt := top 5
abbrev st__law_pot : Stmt := top 7
abbrev st__law_take : Stmt := top 8
abbrev st__law_is : Stmt := top 9
abbrev st__law_row : Stmt := top 10
abbrev st__law_times : Stmt := top 11
abbrev st__law_long_powers : Stmt := top 12
abbrev st_law : Stmt := top 13
abbrev nTimes : List Str := ["one", "other", "found", "n", "i"]
theorem scTimes : FnScope nTimes ["one", "other"] (defScope st_times) := ⟨rfl, rfl, rfl, by decide +kernel, rfl, by decide +kernel, by decide +kernel⟩
def conv1 (xs ys : List Int) (n : Nat) : Int := ((List.range (n + 1)).map fun i => xs.getD i 0 * ys.getD (n - i) 0).sum
def conv (xs ys : List Int) : List Int := (List.range (min xs.length ys.length)).map (conv1 xs ys)
abbrev sTimes : DSpec := pureS (A := List Int × List Int) (fun a => [DTu (intl a.1), DTu (intl a.2)]) (fun a => a.1.length ≤ 1000 ∧ a.2.length ≤ 1000 ∧ ∀ x ∈ a.1, ∀ y ∈ a.2, MulOk x y) (fun a r => r = .tuple (intl (conv a.1 a.2)))
theorem ok_times {g : Gx} (F : Got g st_times "times" ["one", "other"]) (B : FreeB g freeB) : FnD g "times" 1 sTimes := by
  refine fn_got F scTimes ?_ ?_
  · rintro args C P ⟨_, a, rfl, _⟩
    rfl
  rintro args C P ⟨rfl, ⟨xs, ys⟩, rfl, ⟨l1, l2, hm⟩, hP⟩
  have l1 : xs.length ≤ 1000 := l1
  have l2 : ys.length ≤ 1000 := l2
  have hm : ∀ x ∈ xs, ∀ y ∈ ys, MulOk x y := hm
  show Ss _ (defBody st_times) [some (DTu (intl xs)), some (DTu (intl ys)), none, none, none] [] _
  walk_at "g"
  refine ⟨by decide, ?_⟩
  walk_at "g"
  refine s1_range1 3 rfl (FreeB.at B rfl) rfl rfl rfl ?_
  walk_at "g"
  refine ⟨_, rfl, ?_, ?_, fun i ρ C => ∃ z, ρ = [some (DTu (intl xs)), some (DTu (intl ys)), some (.own 0), z, none] ∧ C = [.lst (((List.range i).map (conv1 xs ys)).map DI)], ⟨none, rfl, rfl⟩, ?_, ?_⟩
  · split <;> omega
  · split <;> omega
  · rintro i ρ C hi ⟨z, rfl, rfl⟩
    have hi1 : i < xs.length := by
      split at hi <;> omega
    have hi2 : i < ys.length := by
      split at hi <;> omega
    walk_at "g"
    refine ⟨0, _, rfl, rfl, ?_⟩
    walk_at "g"
    refine ev_comp [("i", 4)] rfl (fun _ _ => rfl) (lc_range1 4 (by decide) rfl (FreeB.at B rfl) rfl rfl rfl ?_)
    walk_at "g"
    refine ⟨_, fun m => .int (xs.getD m 0 * ys.getD (i - m) 0), rfl, by omega, by omega, ?_, ?_⟩
    · intro m acc hm'
      walk_at "g"
      refine o_mul ?_ ?_
      · refine hm _ (getD_mem (by omega)) _ (getD_mem (by omega))
      · refine ⟨?_, rfl⟩
        rw [show ((m : Int)).toNat = m by omega, show ((i : Int) - (m : Int)).toNat = i - m by omega]
    · walk_at "g"
      refine c_sum (ns := (List.range ((i : Int) + 1).toNat).map fun m => xs.getD m 0 * ys.getD (i - m) 0) (items_own ?_) ?_
      · simp
      · refine ⟨_, rfl, by simp; omega, ?_⟩
        refine nx_at 1 (Nat.le_refl _) (by simp) rfl ?_ rfl ⟨_, rfl, ?_⟩
        · walk_at "ok"
        · rw [List.range_succ, List.map_append, List.map_append]
          rfl
  · rintro ρ C ⟨z, rfl, rfl⟩
    walk_at "g"
    refine c_tupI rfl (items_own rfl) ?_
    refine rt_at 0 (Nat.le_refl _) (Nat.zero_le _) rfl rfl ?_
    refine hP _ ?_
    show PyData.tuple (intl _) = PyData.tuple (intl _)
    have hl : (if (ys.length : Int) < xs.length then (ys.length : Int) else xs.length).toNat = min xs.length ys.length := by split <;> omega
    rw [hl]
    rfl
/-! put_on, taken_off -/
def putTo (s : Nat) (row : List Int) (k : Nat) : List Int := (List.range k).foldl (fun r k => r.set (s + k) (r.getD (s + k) 0 + r.getD k 0)) row
def offTo (s : Nat) (row : List Int) (k : Nat) : List Int := (List.range k).foldl (fun r k => r.set (row.length - 1 - k) (r.getD (row.length - 1 - k) 0 - r.getD (row.length - 1 - k - s) 0)) row
theorem putTo_succ (s : Nat) (row : List Int) (k : Nat) : putTo s row (k + 1) = (putTo s row k).set (s + k) ((putTo s row k).getD (s + k) 0 + (putTo s row k).getD k 0) := by
  unfold putTo
  rw [List.range_succ, List.foldl_append]
  rfl
theorem offTo_succ (s : Nat) (row : List Int) (k : Nat) : offTo s row (k + 1) = (offTo s row k).set (row.length - 1 - k) ((offTo s row k).getD (row.length - 1 - k) 0 - (offTo s row k).getD (row.length - 1 - k - s) 0) := by
  unfold offTo
  rw [List.range_succ, List.foldl_append]
  rfl
theorem putTo_len (s : Nat) (row : List Int) : ∀ k, (putTo s row k).length = row.length
  | 0 => rfl
  | k + 1 => by rw [putTo_succ, List.length_set, putTo_len s row k]
theorem offTo_len (s : Nat) (row : List Int) : ∀ k, (offTo s row k).length = row.length
  | 0 => rfl
  | k + 1 => by rw [offTo_succ, List.length_set, offTo_len s row k]
def putRow (s : Nat) (row : List Int) : List Int := putTo s row (row.length - s)
def offRow (s : Nat) (row : List Int) : List Int := offTo s row (row.length - s)
abbrev sPut (f : Nat → List Int → List Int) : DSpec := wrS (A := List Int × Nat) (fun a => [.own 0, DI (a.2 : Int)]) (fun a => a.1) (fun a => 1 ≤ a.2 ∧ a.2 ≤ 1000000 ∧ a.1.length ≤ 1000000) (fun a r x => r = .none ∧ x = f a.2 a.1)
abbrev nPut : List Str := ["row", "size", "n"]
theorem scPut : FnScope nPut ["row", "size"] (defScope st_put_on) := ⟨rfl, rfl, rfl, by decide +kernel, rfl, by decide +kernel, by decide +kernel⟩
theorem scOff : FnScope nPut ["row", "size"] (defScope st_taken_off) := ⟨rfl, rfl, rfl, by decide +kernel, rfl, by decide +kernel, by decide +kernel⟩
theorem ok_put_on {g : Gx} (F : Got g st_put_on "put_on" ["row", "size"]) (B : FreeB g freeB) : FnD g "put_on" 1 (sPut putRow) := by
  refine fn_got F scPut ?_ ?_
  · rintro args C P ⟨_, _, rfl, _⟩
    rfl
  rintro args C P ⟨⟨row, s⟩, rfl, rfl, ⟨h1, h2, h3⟩, hP⟩
  have h1 : 1 ≤ s := h1
  have h2 : s ≤ 1000000 := h2
  have h3 : row.length ≤ 1000000 := h3
  show Ss _ (defBody st_put_on) [some (.own 0), some (DI (s : Int)), none] [.lst (row.map DI)] _
  walk_at "s"
  refine s1_range2 2 rfl (FreeB.at B rfl) rfl rfl rfl ?_
  walk_at "g"
  refine ⟨_, _, rfl, by omega, fun i ρ C => ∃ z, ρ = [some (.own 0), some (DI (s : Int)), z] ∧ C = [.lst ((putTo s row (i - s).toNat).map DI)], ⟨none, rfl, ?_⟩, ?_, ?_⟩
  · rw [Int.sub_self]
    rfl
  · rintro i ρ C hi1 hi2 ⟨z, rfl, rfl⟩
    have hl := putTo_len s row (i - s).toNat
    walk_at "g"
    refine ⟨0, _, _, rfl, rfl, rfl, by omega, by omega, ?_⟩
    walk_at "g"
    refine ⟨rfl, ?_⟩
    walk_at "g"
    refine ⟨_, rfl, rfl, ?_⟩
    refine nx_at 1 (Nat.le_refl _) (by simp) rfl (by walk_at "ok") rfl ⟨_, rfl, ?_⟩
    have e1 : (i + 1 - s).toNat = (i - s).toNat + 1 := by omega
    have e2 : s + (i - (s : Int)).toNat = i.toNat := by omega
    rw [e1, putTo_succ, e2]
    rfl
  · rintro ρ C ⟨z, rfl, rfl⟩
    refine nx_end 1 (Nat.le_refl _) (Nat.le_refl _) rfl (by walk_at "ok") fun _ => ?_
    refine hP _ _ ⟨rfl, ?_⟩
    show putTo s row _ = putRow s row
    unfold putRow
    congr 1
    split <;> omega
theorem ok_taken_off {g : Gx} (F : Got g st_taken_off "taken_off" ["row", "size"]) (B : FreeB g freeB) : FnD g "taken_off" 1 (sPut offRow) := by
  refine fn_got F scOff ?_ ?_
  · rintro args C P ⟨_, _, rfl, _⟩
    rfl
  rintro args C P ⟨⟨row, s⟩, rfl, rfl, ⟨h1, h2, h3⟩, hP⟩
  have h1 : 1 ≤ s := h1
  have h2 : s ≤ 1000000 := h2
  have h3 : row.length ≤ 1000000 := h3
  show Ss _ (defBody st_taken_off) [some (.own 0), some (DI (s : Int)), none] [.lst (row.map DI)] _
  walk_at "s"
  refine s1_range3 2 rfl (FreeB.at B rfl) rfl rfl rfl ?_
  walk_at "g"
  refine ⟨_, _, _, (row.length : Int) - 1 - ((s : Int) - 1) |>.toNat, rfl, RgC.neg (by omega) (by omega) (by omega) (by omega), fun k ρ C => ∃ z, ρ = [some (.own 0), some (DI (s : Int)), z] ∧ C = [.lst ((offTo s row k).map DI)], ⟨none, rfl, rfl⟩, ?_, ?_⟩
  · rintro k ρ C hk ⟨z, rfl, rfl⟩
    have hl := offTo_len s row k
    walk_at "g"
    refine ⟨0, _, _, rfl, rfl, rfl, by omega, by omega, ?_⟩
    walk_at "g"
    refine ⟨rfl, ?_⟩
    walk_at "g"
    refine ⟨_, rfl, rfl, ?_⟩
    refine nx_at 1 (Nat.le_refl _) (by simp) rfl (by walk_at "ok") rfl ⟨_, rfl, ?_⟩
    have e1 : ((row.length : Int) - 1 + (k : Int) * -1).toNat = row.length - 1 - k := by omega
    have e2 : ((row.length : Int) - 1 + (k : Int) * -1 - (s : Int)).toNat = row.length - 1 - k - s := by omega
    rw [offTo_succ, e1, e2]
    rfl
  · rintro ρ C ⟨z, rfl, rfl⟩
    refine nx_end 1 (Nat.le_refl _) (Nat.le_refl _) rfl (by walk_at "ok") fun _ => ?_
    refine hP _ _ ⟨rfl, ?_⟩
    show offTo s row _ = offRow s row
    unfold offRow
    congr 1
    omega
/-! product -/
def prodTo (ps : List Int) : Nat → List Int
  | 0 => [1] ++ List.replicate ps.length 0
  | k + 1 => Nat.repeat (offRow (k + 1)) (-(ps.getD k 0)).toNat (Nat.repeat (putRow (k + 1)) (ps.getD k 0).toNat (prodTo ps k))
theorem putRow_len (s : Nat) (row : List Int) : (putRow s row).length = row.length := putTo_len s row _
theorem offRow_len (s : Nat) (row : List Int) : (offRow s row).length = row.length := offTo_len s row _
theorem repeat_len {f : List Int → List Int} (hf : ∀ r, (f r).length = r.length) : ∀ (n : Nat) (r : List Int), (Nat.repeat f n r).length = r.length
  | 0, _ => rfl
  | n + 1, r => by
    show (f (Nat.repeat f n r)).length = _
    rw [hf, repeat_len hf n r]
theorem prodTo_len (ps : List Int) : ∀ k, (prodTo ps k).length = ps.length + 1
  | 0 => by simp [prodTo]
  | k + 1 => by
    unfold prodTo
    rw [repeat_len (offRow_len _), repeat_len (putRow_len _), prodTo_len ps k]
def prodRow (ps : List Int) : List Int := prodTo ps ps.length
abbrev sProduct : DSpec := pureS (A := List Int) (fun a => [DTu (intl a)]) (fun a => a.length ≤ 900000 ∧ ∀ p ∈ a, -(2 ^ 61) ≤ p ∧ p ≤ 2 ^ 61) (fun a r => r = .tuple (intl (prodRow a)))
abbrev nProduct : List Str := ["powers", "row", "at", "power", "turn"]
theorem scProduct : FnScope nProduct ["powers"] (defScope st_product) := ⟨rfl, rfl, rfl, by decide +kernel, rfl, by decide +kernel, by decide +kernel⟩
theorem ok_product {g : Gx} (F : Got g st_product "product" ["powers"]) (B : FreeB g freeB) (Fp : FnD g "put_on" 1 (sPut putRow)) (Fo : FnD g "taken_off" 1 (sPut offRow)) : FnD g "product" 2 sProduct := by
  refine fn_got F scProduct ?_ ?_
  · rintro args C P ⟨_, _, rfl, _⟩
    rfl
  rintro args C P ⟨rfl, ps, rfl, ⟨h1, h2⟩, hP⟩
  show Ss _ (defBody st_product) [some (DTu (intl ps)), none, none, none, none] [] _
  walk_at "g"
  refine ⟨by decide, ?_⟩
  walk_at "g"
  refine ⟨by decide, ?_⟩
  walk_at "g"
  refine o_repI (items_own rfl) (by omega) (by omega) ?_
  refine o_catI (xs := [1]) (items_own rfl) (items_own rfl) (by simp; omega) ?_
  walk_at "s"
  refine s1_enum 2 3 rfl (FreeB.at B rfl) rfl rfl rfl rfl rfl ?_
  walk_at "g"
  refine ⟨_, intl ps, rfl, rfl, fun k ρ C => ∃ x y z, ρ = [some (DTu (intl ps)), some (.own 3), x, y, z] ∧ C = [.lst [DI 1], .lst [DI 0], .lst ((List.replicate ps.length 0).map DI), .lst ((prodTo ps k).map DI)], ⟨_, _, _, rfl, ?_⟩, fun _ _ _ _ _ => rfl, ?_, ?_⟩
  · simp [prodTo]
  · rintro k p ρ C hk ⟨x, y, z, rfl, rfl⟩
    obtain ⟨hk1, rfl⟩ := intl_get hk
    have hp := h2 _ (getD_mem hk1)
    have e0 := prodTo_len ps k
    have eS : prodTo ps (k + 1) = Nat.repeat (offRow (k + 1)) (-(ps.getD k 0)).toNat (Nat.repeat (putRow (k + 1)) (ps.getD k 0).toNat (prodTo ps k)) := rfl
    generalize ps.getD k 0 = p at hp eS
    walk_at "s"
    refine s1_range1 4 rfl (FreeB.at B rfl) rfl rfl rfl ?_
    walk_at "g"
    refine ⟨_, rfl, by omega, by omega, fun j ρ C => ∃ z, ρ = [some (DTu (intl ps)), some (.own 3), some (DI (k : Int)), some (DI p), z] ∧ C = [.lst [DI 1], .lst [DI 0], .lst ((List.replicate ps.length 0).map DI), .lst ((Nat.repeat (putRow (k + 1)) j (prodTo ps k)).map DI)], ⟨z, rfl, rfl⟩, ?_, ?_⟩
    · rintro j ρ C hj ⟨z, rfl, rfl⟩
      walk_at "s"
      walk_at "s"
      refine ev_fnW 3 Fp (Nat.le_of_ble_eq_true rfl) rfl rfl rfl ?_
      walk_at "g"
      refine ⟨rfl, (_, k + 1), rfl, rfl, ⟨by simp, by simp; omega, by simp [repeat_len (putRow_len _)]; omega⟩, ?_⟩
      rintro _ _ ⟨rfl, rfl⟩
      exact nx_at 4 (Nat.le_refl _) (Nat.le_refl _) rfl (by walk_at "ok") rfl ⟨_, rfl, rfl⟩
    · rintro ρ C ⟨z, rfl, rfl⟩
      walk_at "s"
      refine s1_range1 4 rfl (FreeB.at B rfl) rfl rfl rfl ?_
      walk_at "g"
      refine ⟨_, rfl, by omega, by omega, fun j ρ C => ∃ z, ρ = [some (DTu (intl ps)), some (.own 3), some (DI (k : Int)), some (DI p), z] ∧ C = [.lst [DI 1], .lst [DI 0], .lst ((List.replicate ps.length 0).map DI), .lst ((Nat.repeat (offRow (k + 1)) j (Nat.repeat (putRow (k + 1)) p.toNat (prodTo ps k))).map DI)], ⟨z, rfl, rfl⟩, ?_, ?_⟩
      · rintro j ρ C hj ⟨z, rfl, rfl⟩
        walk_at "s"
        walk_at "s"
        refine ev_fnW 3 Fo (Nat.le_of_ble_eq_true rfl) rfl rfl rfl ?_
        walk_at "g"
        refine ⟨rfl, (_, k + 1), rfl, rfl, ⟨by simp, by simp; omega, by simp [repeat_len (putRow_len _), repeat_len (offRow_len _)]; omega⟩, ?_⟩
        rintro _ _ ⟨rfl, rfl⟩
        exact nx_at 4 (Nat.le_refl _) (Nat.le_refl _) rfl (by walk_at "ok") rfl ⟨_, rfl, rfl⟩
      · rintro ρ C ⟨z, rfl, rfl⟩
        refine nx_forg 4 [4] (Nat.le_refl _) (Nat.le_refl _) rfl (by walk_at "ok") rfl ⟨_, _, _, rfl, ?_⟩
        rw [eS]
        rfl
  · rintro ρ C ⟨x, y, z, rfl, rfl⟩
    walk_at "g"
    refine c_tupI rfl (items_own rfl) ?_
    refine rt_at 0 (Nat.le_refl _) (Nat.zero_le _) rfl rfl ?_
    refine hP _ ?_
    rw [intl_len]
    rfl
/-! int("1" + "0" * 300) -/
theorem cps_rep (a : Array Nat) : ∀ (n : Nat) (acc : Array Nat), ((List.replicate n a).foldl (· ++ ·) acc).toList = acc.toList ++ (List.replicate n a.toList).flatten
  | 0, acc => by simp
  | n + 1, acc => by
    rw [List.replicate_succ, List.foldl_cons, cps_rep a n, Array.toList_append, List.replicate_succ, List.flatten_cons, List.append_assoc]
def bigN : Int := ((NumText.digitsVal (49 :: List.replicate 300 48) : Nat) : Int)
theorem bigN_pos : 0 < bigN := by decide +kernel
abbrev bigT : Str := ("1" : Str) ++ (⟨(List.replicate (300 : Int).toNat ("0" : Str).cps).foldl (· ++ ·) #[]⟩ : Str)
theorem bigT_cps : bigT.cps.toList = 49 :: List.replicate 300 48 := by
  show (("1" : Str).cps ++ (List.replicate 300 ("0" : Str).cps).foldl (· ++ ·) #[]).toList = _
  rw [Array.toList_append, cps_rep]
  show [49] ++ ([] ++ (List.replicate 300 [48]).flatten) = _
  rw [rep_one]
  rfl
theorem bigT_len : bigT.length = 301 := by
  show bigT.cps.size = 301
  rw [← Array.length_toList, bigT_cps, List.length_cons, List.length_replicate]
theorem bigT_int : PySem.intText? bigT = some bigN := by
  have h := intText_digits (x := bigT) (by
    rw [bigT_cps]
    intro c hc
    rcases List.mem_cons.mp hc with h | h
    · omega
    · have := List.eq_of_mem_replicate h
      omega) (by rw [bigT_cps]; exact fun z => nomatch z) (by rw [bigT_len]; decide)
  rw [bigT_cps] at h
  exact h
/-! _law_pot, _law_take -/
abbrev sPot : DSpec := freshS (A := List Int × Nat) (fun a => [.rdl (intl a.1), DI (a.2 : Int)]) (fun a => a.1.length ≤ 1000 ∧ a.2 ≤ 1000000) (fun _ r => ∃ a b : Int, r = intl [a, b, 0])
abbrev nPot : List Str := ["_law_script", "_law_k", "_law_cell", "_law_great"]
theorem scPot : FnScope nPot ["_law_script", "_law_k"] (defScope st__law_pot) := ⟨rfl, rfl, rfl, by decide +kernel, rfl, by decide +kernel, by decide +kernel⟩
theorem ite01 (b : Bool) : -(2 ^ 64) < (if b = true then (1 : Int) else 0) ∧ (if b = true then (1 : Int) else 0) < 2 ^ 64 := by cases b <;> decide
theorem ok_pot {g : Gx} (F : Got g st__law_pot "_law_pot" ["_law_script", "_law_k"]) (B : FreeB g freeB) : FnD g "_law_pot" 1 sPot := by
  refine fn_got F scPot ?_ ?_
  · rintro args C P ⟨_, _, rfl, _⟩
    rfl
  rintro args C P ⟨rfl, ⟨ns, k⟩, rfl, ⟨h1, h2⟩, hP⟩
  have h1 : ns.length ≤ 1000 := h1
  have h2 : k ≤ 1000000 := h2
  show Ss _ (defBody st__law_pot) [some (.rdl (intl ns)), some (DI (k : Int)), none, none] [] _
  walk_at "g"
  have fin : ∀ cell : Int, Ss ⟨g, nPot, defScope st__law_pot, fun _ => true, 0⟩ ((defBody st__law_pot).drop 1) [some (.rdl (intl ns)), some (DI (k : Int)), some (DI cell), none] [] (DEnds.trim 0 { nx := fun _ C' => P DN C', rt := P }) := by
    intro cell
    show Ss _ [_, _] _ _ _
    walk_at "g"
    refine o_repS (by decide) (by decide) (by decide) (by decide) ?_
    refine o_catS (by decide +kernel) ?_
    walk_at "g"
    refine c_intS bigT_int (by rw [bigT_len]; decide) ?_
    refine o_mod bigN_pos ?_
    walk_at "g"
    refine o_pow (by decide) (by decide) (by decide) ?_
    walk_at "g"
    refine o_mul (MulOk.r (ite01 _).1 (ite01 _).2) ?_
    walk_at "g"
    refine o_mul (MulOk.l (by omega) (by omega)) ?_
    walk_at "g"
    refine ⟨Nat.le_of_ble_eq_true rfl, ?_⟩
    exact rt_own 1 (Nat.zero_le _) (by decide) (Nat.le_refl _) rfl rfl (hP (intl [_, _, 0]) ⟨_, _, rfl⟩)
  refine ⟨_, rfl, fun h => ?_, fun h => ?_⟩
  · have h3 : (k : Int) < ns.length := of_decide_eq_true h
    walk_at "x"
    exact fin _
  · walk_at "e"
    exact fin _
abbrev sTake : DSpec := wrS (A := List Int × Int) (fun a => [.own 0, DI a.2]) (fun a => a.1) (fun a => a.1.length = 3 ∧ 0 < a.2 ∧ a.2 < 2 ^ 60) (fun a r x => ∃ d : Int, r = .int d ∧ 0 ≤ d ∧ d < a.2 ∧ x.length = 3)
abbrev nTake : List Str := ["_law_pot_here", "_law_many", "_law_digit"]
theorem scTake : FnScope nTake ["_law_pot_here", "_law_many"] (defScope st__law_take) := ⟨rfl, rfl, rfl, by decide +kernel, rfl, by decide +kernel, by decide +kernel⟩
theorem ok_take {g : Gx} (F : Got g st__law_take "_law_take" ["_law_pot_here", "_law_many"]) : FnD g "_law_take" 1 sTake := by
  refine fn_got F scTake ?_ ?_
  · rintro args C P ⟨_, _, rfl, _⟩
    rfl
  rintro args C P ⟨⟨ps, m⟩, rfl, rfl, ⟨h1, h2, h3⟩, hP⟩
  have h1 : ps.length = 3 := h1
  have h2 : 0 < m := h2
  have h3 : m < 2 ^ 60 := h3
  show Ss _ (defBody st__law_take) [some (.own 0), some (DI m), none] [.lst (ps.map DI)] _
  have hm : m.natAbs < 2 ^ 60 := by omega
  have hlog : m.natAbs.log2 < 9000 := Nat.lt_of_lt_of_le (PySem.Flt.log2_lt_of (by decide) hm) (by decide)
  walk_at "g"
  refine ⟨_, rfl, fun h => ?_, fun h => ?_⟩
  · walk_at "g"
    refine o_mod h2 ?_
    walk_at "g"
    refine o_div h2 hlog ?_
    walk_at "g"
    refine ⟨0, _, _, _, rfl, rfl, rfl, rfl, by omega, by omega, ?_⟩
    walk_at "g"
    refine rt_at 1 (Nat.le_refl _) (Nat.le_refl _) rfl (by walk_at "ok") (hP _ _ ⟨_, rfl, Int.emod_nonneg _ (by omega), Int.emod_lt_of_pos _ h2, ?_⟩)
    rw [List.length_set]
    exact h1
  · walk_at "g"
    refine ⟨0, _, _, _, rfl, rfl, rfl, rfl, by omega, by omega, ?_⟩
    walk_at "g"
    refine ⟨0, _, _, _, rfl, rfl, rfl, rfl, by omega, by rw [List.length_set]; omega, ?_⟩
    walk_at "g"
    refine o_mul (MulOk.r (by omega) (by omega)) ?_
    walk_at "g"
    refine o_mod h2 ?_
    refine rt_at 1 (Nat.le_refl _) (Nat.le_refl _) rfl (by walk_at "ok") (hP _ _ ⟨_, rfl, Int.emod_nonneg _ (by omega), Int.emod_lt_of_pos _ h2, ?_⟩)
    rw [List.length_set, List.length_set]
    exact h1
theorem ev_take {c : Cfg} {ρ : DEnv} {C : List Cont} {P : Den → List Cont → Prop} {e : Expr} {es : List Expr} {pos p : Pos} (i : Nat) (F : FnD c.g "_law_take" 1 sTake) (hk : Nat.ble 1 c.kr = true) (hg : glB c.sc "_law_take" = true) (hp : plainArgs (e :: es) = true)
    (h : Ea c (e :: es) ρ C fun args C1 => ∃ (ps : List Int) (m : Int), args = [.own i, DI m] ∧ C1[i]? = some (.lst (ps.map DI)) ∧ ps.length = 3 ∧ 0 < m ∧ m < 2 ^ 60 ∧ ∀ (d : Int) (ps' : List Int), 0 ≤ d → d < m → ps'.length = 3 → P (DI d) (C1.set i (.lst (ps'.map DI)))) : Ev c (.Call (.Name "_law_take" p) (e :: es) [] pos) ρ C P := by
  refine ev_fnW i F (Nat.le_of_ble_eq_true hk) hg (by decide +kernel) hp ?_
  refine fun X hX S ps σ H hc he Q kk => h X hX S ps σ H hc he Q fun S1 ps1 H1 C1 vs args e1 c1 o1 ⟨qs, m, g1, g2, g3, g4, g5, g6⟩ => kk S1 ps1 H1 C1 vs args e1 c1 o1 ⟨?_, (qs, m), g2, ?_, ⟨g3, g4, g5⟩, ?_⟩
  · subst g1
    simp [onlyD]
  · subst g1
    simp [toD]
  · rintro r x ⟨d, rfl, q1, q2, q3⟩
    exact g6 d x q1 q2 q3
/-! _law_is, of the same row -/
def rowOk (a : List Int) : Prop := a.length ≤ 2000 ∧ ∀ n ∈ a, n.natAbs < 2 ^ 1900
abbrev nIs : List Str := ["_law_found", "_law_due"]
theorem scIs : FnScope nIs ["_law_found", "_law_due"] (defScope st__law_is) := ⟨rfl, rfl, rfl, by decide +kernel, rfl, by decide +kernel, by decide +kernel⟩
abbrev sIsT : DSpec := pureS (A := List Int) (fun a => [DTu (intl a), DTu (intl a)]) rowOk (fun _ r => r = .bool true)
abbrev sIsL : DSpec := wrS (A := List Int) (fun a => [DTu (intl a), .own 0]) (fun a => a) rowOk (fun a r x => r = .bool true ∧ x = a)
theorem c_tup2 {c : Cfg} {C : List Cont} {P : Den → List Cont → Prop} {d : Den} {xs : List Int} (hd : (d = DTu (intl xs)) ∨ (isT d = false ∧ items C d = some (xs.map DI))) (h : P (DTu (intl xs)) C) : Op c (.f (.type "tuple")) [d] C P := by
  rcases hd with rfl | ⟨h1, h2⟩
  · exact c_tupleT h
  · exact c_tupI h1 h2 h
theorem is_core {g : Gx} {k : Nat} {xs : List Int} (B : FreeB g freeB) (hr : rowOk xs) (d : Den) (C : List Cont) (D : DEnds) (hd : (d = DTu (intl xs)) ∨ (isT d = false ∧ items C d = some (xs.map DI)))
    (h : D.rt (DB true) C) : Ss ⟨g, nIs, defScope st__law_is, fun _ => true, k⟩ (defBody st__law_is) [some (DTu (intl xs)), some d] C D := by
  walk_at "s"
  walk_at "s"
  refine ev_and ?_
  walk_at "e"
  walk_at "x"
  refine ev_tupleY rfl (FreeB.at B rfl) ?_
  walk_at "x"
  refine c_isi rfl rfl ⟨_, rfl, fun _ => ?_, fun z => nomatch z⟩
  refine ev_one ?_
  walk_at "x"
  refine c_repr hr.1 hr.2 ?_
  walk_at "x"
  refine c_tup2 hd ?_
  walk_at "x"
  refine c_repr hr.1 hr.2 ?_
  refine o_eqS ?_
  rw [decide_eq_true rfl]
  exact h
theorem ok_isT {g : Gx} (F : Got g st__law_is "_law_is" ["_law_found", "_law_due"]) (B : FreeB g freeB) : FnD g "_law_is" 1 sIsT := by
  refine fn_got F scIs ?_ ?_
  · rintro args C P ⟨_, _, rfl, _⟩
    rfl
  rintro args C P ⟨rfl, xs, rfl, hr, hP⟩
  exact is_core B hr _ _ _ (.inl rfl) (rt_at 0 (Nat.le_refl _) (Nat.le_refl _) rfl rfl (hP _ rfl))
theorem ok_isL {g : Gx} (F : Got g st__law_is "_law_is" ["_law_found", "_law_due"]) (B : FreeB g freeB) : FnD g "_law_is" 1 sIsL := by
  refine fn_got F scIs ?_ ?_
  · rintro args C P ⟨_, _, rfl, _⟩
    rfl
  rintro args C P ⟨xs, rfl, rfl, hr, hP⟩
  exact is_core B hr _ _ _ (.inr ⟨rfl, items_own rfl⟩) (rt_at 1 (Nat.le_refl _) (Nat.le_refl _) rfl (by walk_at "ok") (hP _ _ ⟨rfl, rfl⟩))
/-! _law_times -/
def addTo (ys : List Int) (i : Nat) (v : Int) (row : List Int) (k : Nat) : List Int := (List.range k).foldl (fun r j => r.set (i + j) (r.getD (i + j) 0 + v * ys.getD j 0)) row
theorem addTo_succ (ys : List Int) (i : Nat) (v : Int) (row : List Int) (k : Nat) : addTo ys i v row (k + 1) = (addTo ys i v row k).set (i + k) ((addTo ys i v row k).getD (i + k) 0 + v * ys.getD k 0) := by
  unfold addTo
  rw [List.range_succ, List.foldl_append]
  rfl
theorem addTo_len (ys : List Int) (i : Nat) (v : Int) (row : List Int) : ∀ k, (addTo ys i v row k).length = row.length
  | 0 => rfl
  | k + 1 => by rw [addTo_succ, List.length_set, addTo_len ys i v row k]
def mulTo (xs ys : List Int) (n : Nat) : Nat → List Int
  | 0 => List.replicate n 0
  | i + 1 => if xs.getD i 0 ≠ 0 then addTo ys i (xs.getD i 0) (mulTo xs ys n i) (n - i) else mulTo xs ys n i
theorem mulTo_len (xs ys : List Int) (n : Nat) : ∀ k, (mulTo xs ys n k).length = n
  | 0 => List.length_replicate
  | k + 1 => by
    unfold mulTo
    split
    · rw [addTo_len, mulTo_len xs ys n k]
    · exact mulTo_len xs ys n k
def mulRow (xs ys : List Int) : List Int := mulTo xs ys (min xs.length ys.length) (min xs.length ys.length)
abbrev sTimesL : DSpec := freshS (A := List Int × List Int) (fun a => [DTu (intl a.1), DTu (intl a.2)]) (fun a => a.1.length ≤ 1000 ∧ a.2.length ≤ 1000 ∧ ∀ x ∈ a.1, ∀ y ∈ a.2, MulOk x y) (fun a r => r = intl (mulRow a.1 a.2))
abbrev nTimesL : List Str := ["_law_one", "_law_other", "_law_found", "_law_i", "_law_number", "_law_j"]
theorem scTimesL : FnScope nTimesL ["_law_one", "_law_other"] (defScope st__law_times) := ⟨rfl, rfl, rfl, by decide +kernel, rfl, by decide +kernel, by decide +kernel⟩
theorem ok_timesL {g : Gx} (F : Got g st__law_times "_law_times" ["_law_one", "_law_other"]) (B : FreeB g freeB) : FnD g "_law_times" 1 sTimesL := by
  refine fn_got F scTimesL ?_ ?_
  · rintro args C P ⟨_, _, rfl, _⟩
    rfl
  rintro args C P ⟨rfl, ⟨xs, ys⟩, rfl, ⟨l1, l2, hm⟩, hP⟩
  have l1 : xs.length ≤ 1000 := l1
  have l2 : ys.length ≤ 1000 := l2
  have hm : ∀ x ∈ xs, ∀ y ∈ ys, MulOk x y := hm
  have hl : (if (ys.length : Int) < xs.length then (ys.length : Int) else xs.length) = ((min xs.length ys.length : Nat) : Int) := by split <;> omega
  show Ss _ (defBody st__law_times) [some (DTu (intl xs)), some (DTu (intl ys)), none, none, none, none] [] _
  walk_at "g"
  refine ⟨by decide, ?_⟩
  walk_at "g"
  rw [hl]
  have hP : P (.own 0) [.lst ((mulRow xs ys).map DI)] := by
    have := hP _ rfl
    rwa [intl_dat] at this
  unfold mulRow at hP
  have n1 : min xs.length ys.length ≤ xs.length := Nat.min_le_left _ _
  have n2 : min xs.length ys.length ≤ ys.length := Nat.min_le_right _ _
  generalize min xs.length ys.length = n at *
  refine o_repI (items_own rfl) (by omega) (by omega) ?_
  walk_at "s"
  refine s1_enum 3 4 rfl (FreeB.at B rfl) rfl rfl rfl rfl rfl ?_
  walk_at "x"
  rw [List.length_replicate, Int.toNat_natCast]
  refine ⟨_, rfl, .inl ⟨_, rfl, ?_⟩⟩
  walk_at "x"
  rw [cut_to, show (intl xs).take n = intl (xs.take n) from (List.map_take ..).symm]
  have lt : (xs.take n).length = n := by rw [List.length_take]; omega
  have gt : ∀ j, j < n → (xs.take n).getD j 0 = xs.getD j 0 := fun j hj => by
    rw [List.getD_eq_getElem?_getD, List.getElem?_take_of_lt hj, ← List.getD_eq_getElem?_getD]
  refine ⟨_, intl (xs.take n), rfl, rfl, fun i ρ C => ∃ x y z, ρ = [some (DTu (intl xs)), some (DTu (intl ys)), some (.own 1), x, y, z] ∧ C = [.lst [DI 0], .lst ((mulTo xs ys n i).map DI)], ⟨_, _, _, rfl, rfl⟩, fun _ _ _ _ _ => rfl, ?_, ?_⟩
  · rintro i v ρ C hi ⟨x, y, z, rfl, rfl⟩
    obtain ⟨hi1, rfl⟩ := intl_get hi
    rw [lt] at hi1
    rw [gt i hi1]
    have hv : xs.getD i 0 ∈ xs := getD_mem (by omega)
    have eS : mulTo xs ys n (i + 1) = if xs.getD i 0 ≠ 0 then addTo ys i (xs.getD i 0) (mulTo xs ys n i) (n - i) else mulTo xs ys n i := rfl
    have e0 := mulTo_len xs ys n i
    generalize xs.getD i 0 = v at *
    walk_at "g"
    refine ⟨_, rfl, fun h => ?_, fun h => ?_⟩
    · have hz : v ≠ 0 := by simpa using h
      rw [if_pos hz] at eS
      walk_at "s"
      refine s1_range1 5 rfl (FreeB.at B rfl) rfl rfl rfl ?_
      walk_at "g"
      rw [e0]
      refine ⟨_, rfl, by omega, by omega, fun j ρ C => ∃ z, ρ = [some (DTu (intl xs)), some (DTu (intl ys)), some (.own 1), some (DI (i : Int)), some (DI v), z] ∧ C = [.lst [DI 0], .lst ((addTo ys i v (mulTo xs ys n i) j).map DI)], ⟨z, rfl, rfl⟩, ?_, ?_⟩
      · rintro j ρ C hj ⟨z, rfl, rfl⟩
        have e1 := addTo_len ys i v (mulTo xs ys n i) j
        walk_at "g"
        refine o_mul (hm _ hv _ (getD_mem (by omega))) ?_
        walk_at "g"
        refine ⟨1, _, _, _, rfl, rfl, rfl, rfl, by omega, by omega, ?_⟩
        refine nx_at 2 (Nat.le_refl _) (Nat.le_refl _) rfl (by walk_at "ok") rfl ⟨_, rfl, ?_⟩
        rw [addTo_succ, show ((i : Int) + (j : Int)).toNat = i + j by omega, show ((j : Int)).toNat = j by omega]
        rfl
      · rintro ρ C ⟨z, rfl, rfl⟩
        refine nx_forg 2 [5] (Nat.le_refl _) (Nat.le_refl _) rfl (by walk_at "ok") rfl ⟨_, _, _, rfl, ?_⟩
        rw [eS, show ((n : Int) - (i : Int)).toNat = n - i by omega]
        rfl
    · have hz : ¬ v ≠ 0 := by simpa using h
      rw [if_neg hz] at eS
      refine ss_nil (nx_forg 2 [5] (Nat.le_refl _) (Nat.le_refl _) rfl (by walk_at "ok") rfl ⟨_, _, _, rfl, ?_⟩)
      rw [eS]
      rfl
  · rintro ρ C ⟨x, y, z, rfl, rfl⟩
    rw [intl_len, lt]
    walk_at "g"
    exact rt_pick 0 (Nat.le_refl _) (Nat.zero_le _) rfl rfl rfl okC_DI hP
/-! _law_row -/
def rowIn (r : List Int) : Prop := 1 ≤ r.length ∧ r.length ≤ 121 ∧ ∀ x ∈ r, -1000000 ≤ x ∧ x ≤ 1000000
def optD : Option Int → Den
  | none => DN
  | some v => DI v
abbrev sRow : DSpec := wrS (A := List Int × Option Int) (fun a => [.own 0, optD a.2]) (fun a => a.1) (fun a => a.1.length = 3 ∧ ∀ v, a.2 = some v → -1 ≤ v ∧ v ≤ 1)
  (fun a r x => ∃ row, r = .tuple (intl row) ∧ rowIn row ∧ (∀ v, a.2 = some v → row.getD 0 0 = v) ∧ x.length = 3)
abbrev nRow : List Str := ["_law_pot_here", "_law_begin", "_law_style", "_law_size", "_law_many", "_law_found", "_law_spot", "_law_most"]
def rowIv (b : Option Int) (style size many : Int) (gx : Cont) (j : Nat) (ρ : DEnv) (C : List Cont) : Prop := ∃ (y z : Option Den) (qs row : List Int), ρ = [some (.own 0), some (optD b), some (DI style), some (DI size), some (DI many), some (.own 2), y, z] ∧ qs.length = 3 ∧ row.length = j ∧ (∀ x ∈ row, -1000000 ≤ x ∧ x ≤ 1000000) ∧ C = [.lst (qs.map DI), gx, .lst (row.map DI)]
theorem rowIv_put {b : Option Int} {style size many : Int} {gx : Cont} {j : Nat} {y z : Option Den} {qs row : List Int} {v : Int} (q1 : qs.length = 3) (hl : row.length = j) (hr : ∀ x ∈ row, -1000000 ≤ x ∧ x ≤ 1000000) (q2 : -1000000 ≤ v) (q3 : v ≤ 1000000) :
    rowIv b style size many gx (j + 1) [some (.own 0), some (optD b), some (DI style), some (DI size), some (DI many), some (.own 2), y, z] [.lst (qs.map DI), gx, .lst (row.map DI ++ [DI v])] := by
  refine ⟨_, _, qs, row ++ [v], rfl, q1, by simp [hl], ?_, by rw [List.map_append]; rfl⟩
  intro x hx
  rcases List.mem_append.mp hx with hx | hx
  · exact hr x hx
  · have : x = v := by simpa using hx
    subst this
    exact ⟨q2, q3⟩
theorem scRow : FnScope nRow ["_law_pot_here", "_law_begin"] (defScope st__law_row) := ⟨rfl, rfl, rfl, by decide +kernel, rfl, by decide +kernel, by decide +kernel⟩
theorem ok_row {g : Gx} (F : Got g st__law_row "_law_row" ["_law_pot_here", "_law_begin"]) (B : FreeB g freeB) (Ft : FnD g "_law_take" 1 sTake) : FnD g "_law_row" 2 sRow := by
  refine fn_got F scRow ?_ ?_
  · rintro args C P ⟨_, _, rfl, _⟩
    rfl
  rintro args C P ⟨⟨ps, b⟩, rfl, rfl, ⟨h1, h2⟩, hP⟩
  have h1 : ps.length = 3 := h1
  have h2 : ∀ v, b = some v → -1 ≤ v ∧ v ≤ 1 := h2
  show Ss _ (defBody st__law_row) [some (.own 0), some (optD b), none, none, none, none, none, none] [.lst (ps.map DI)] _
  walk_at "s"
  refine s1_par 2 3 rfl rfl (by decide) rfl rfl (sw_env fun _ _ _ _ _ _ _ _ => rfl) ?_
  walk_at "a"
  refine ev_take 0 Ft rfl rfl rfl ?_
  walk_at "x"
  refine ⟨_, _, rfl, rfl, h1, by decide, by decide, fun style p1 s1 s2 h3 => ?_⟩
  walk_at "a"
  refine ev_take 0 Ft rfl rfl rfl ?_
  walk_at "x"
  refine ⟨_, _, rfl, rfl, h3, by decide, by decide, fun size p2 z1 z2 h4 => ?_⟩
  walk_at "x"
  refine ⟨_, _, rfl, ?_⟩
  walk_at "s"
  walk_at "s"
  refine ev_ix (fun _ _ => rfl) (ev_list ?_)
  walk_at "x"
  refine ev_take 0 Ft rfl rfl rfl ?_
  walk_at "x"
  refine ⟨_, _, rfl, rfl, h4, by decide, by decide, fun d1 p3 a1 a2 h5 => ?_⟩
  walk_at "x"
  refine ev_take 0 Ft rfl rfl rfl ?_
  walk_at "x"
  refine ⟨_, _, rfl, rfl, h5, by decide, by decide, fun d2 p4 b1 b2 h6 => ?_⟩
  walk_at "x"
  refine ev_take 0 Ft rfl rfl rfl ?_
  walk_at "x"
  refine ⟨_, _, rfl, rfl, h6, by decide, by decide, fun d3 p5 c1 c2 h7 => ?_⟩
  walk_at "x"
  refine ev_take 0 Ft rfl rfl rfl ?_
  walk_at "x"
  refine ⟨_, _, rfl, rfl, h7, by decide, by decide, fun d4 p6 e1 e2 h8 => ?_⟩
  walk_at "x"
  refine ⟨Nat.le_of_ble_eq_true rfl, ?_⟩
  walk_at "x"
  refine x_ints (xs := [1 + d1, 1 + d2, 1 + d3, 1 + d4, 121]) (items_own rfl) z1 z2 ?_
  have hm : 1 ≤ [1 + d1, 1 + d2, 1 + d3, 1 + d4, 121].getD size.toNat 0 ∧ [1 + d1, 1 + d2, 1 + d3, 1 + d4, 121].getD size.toNat 0 ≤ 121 := by
    have hz : size = 0 ∨ size = 1 ∨ size = 2 ∨ size = 3 ∨ size = 4 := by omega
    rcases hz with rfl | rfl | rfl | rfl | rfl
    · show 1 ≤ 1 + d1 ∧ 1 + d1 ≤ 121
      omega
    · show 1 ≤ 1 + d2 ∧ 1 + d2 ≤ 121
      omega
    · show 1 ≤ 1 + d3 ∧ 1 + d3 ≤ 121
      omega
    · show 1 ≤ 1 + d4 ∧ 1 + d4 ≤ 121
      omega
    · show (1 : Int) ≤ 121 ∧ (121 : Int) ≤ 121
      omega
  generalize [1 + d1, 1 + d2, 1 + d3, 1 + d4, 121].getD size.toNat 0 = many at hm
  walk_at "g"
  refine ⟨Nat.le_of_ble_eq_true rfl, ?_⟩
  walk_at "s"
  refine s1_range1 6 rfl (FreeB.at B rfl) rfl rfl rfl ?_
  walk_at "g"
  have hP' : ∀ (qs row : List Int), qs.length = 3 → rowIn row → (∀ v, b = some v → row.getD 0 0 = v) → P (.dat (.tuple (intl row))) [.lst (qs.map DI)] := fun qs row q1 q2 q3 => hP _ _ ⟨row, rfl, q2, q3, q1⟩
  generalize hgx : Cont.lst [DI (1 + d1), DI (1 + d2), DI (1 + d3), DI (1 + d4), DI 121] = gx
  have og : ∀ n, okC n gx = true := fun n => by rw [← hgx]; rfl
  have ob : ∀ n, okD n (optD b) = true := fun n => by cases b <;> rfl
  refine ⟨_, rfl, by omega, by omega, rowIv b style size many gx, ⟨_, _, p6, [], rfl, h8, rfl, by simp, by rw [← hgx]; rfl⟩, ?_, ?_⟩
  · rintro j ρ C hj ⟨y, z, qs, row, rfl, hq, hl, hr, rfl⟩
    walk_at "g"
    have other : ∀ qs : List Int, qs.length = 3 → Ss ⟨g, nRow, defScope st__law_row, fun _ => true, 1⟩ (match defBody st__law_row with | [_, _, _, .For _ _ [.If _ _ els _] _ _, _, _] => els | _ => []) [some (.own 0), some (optD b), some (DI style), some (DI size), some (DI many), some (.own 2), some (DI (j : Int)), z] [.lst (qs.map DI), gx, .lst (row.map DI)]
        (loopE { nx := fun ρ1 C1 => Ss ⟨g, nRow, defScope st__law_row, fun _ => true, 1⟩ (match defBody st__law_row with | [_, _, _, _, i, r] => [i, r] | _ => []) ρ1 C1 (DEnds.trim 1 { nx := fun _ C' => P DN C', rt := P }), rt := (DEnds.trim 1 { nx := fun _ C' => P DN C', rt := P }).rt } [.lst (qs.map DI), gx, .lst (row.map DI)] (rowIv b style size many gx (j + 1))) := by
      intro qs hq
      show Ss _ [_, _] _ _ _
      walk_at "g"
      refine ⟨Nat.le_of_ble_eq_true rfl, ?_⟩
      walk_at "x"
      refine x_ints (xs := [3, 1000000, 20, 1]) (items_own rfl) s1 s2 ?_
      have hm : 1 ≤ ([3, 1000000, 20, 1] : List Int).getD style.toNat 0 ∧ ([3, 1000000, 20, 1] : List Int).getD style.toNat 0 ≤ 1000000 := by
        have hz : style = 0 ∨ style = 1 ∨ style = 2 ∨ style = 3 := by omega
        rcases hz with rfl | rfl | rfl | rfl <;> decide
      generalize ([3, 1000000, 20, 1] : List Int).getD style.toNat 0 = most at hm
      walk_at "g"
      refine ⟨2, _, rfl, rfl, ?_⟩
      walk_at "e"
      refine ev_take 0 Ft rfl rfl rfl ?_
      walk_at "x"
      refine ⟨_, _, rfl, rfl, hq, by omega, by omega, fun d q1 a1 a2 hq1 => ?_⟩
      walk_at "x"
      refine ⟨_, rfl, by simp; omega, ?_⟩
      exact nx_at 3 (Nat.le_refl _) (by simp) rfl (by simp [og]) (by cases b <;> rfl) (rowIv_put hq1 hl hr (by omega) (by omega))
    refine ⟨_, rfl, fun h => ?_, fun h => ?_⟩
    · refine ew_and1 ?_
      refine et_cmp rfl ?_
      refine ev_take 0 Ft rfl rfl rfl ?_
      walk_at "x"
      refine ⟨_, _, rfl, rfl, hq, by decide, by decide, fun d q1 a1 a2 hq1 => ?_⟩
      walk_at "x"
      refine ⟨_, rfl, fun h => ?_, fun h => ?_⟩
      · walk_at "g"
        refine ⟨2, _, rfl, rfl, ?_⟩
        walk_at "x"
        refine ⟨_, rfl, by simp; omega, ?_⟩
        exact nx_forg 3 [7] (Nat.le_refl _) (Nat.le_refl _) rfl (by simp [og]) (by cases b <;> rfl) (rowIv_put hq1 hl hr (by decide) (by decide))
      · exact other q1 hq1
    · exact ⟨fun z => (nomatch z), fun _ => other qs hq⟩
  · rintro ρ C ⟨y, z, qs, row, rfl, hq, hl, hr, rfl⟩
    walk_at "g"
    have fin : ∀ row : List Int, rowIn row → (∀ v, b = some v → row.getD 0 0 = v) → Ss ⟨g, nRow, defScope st__law_row, fun _ => true, 1⟩ (match defBody st__law_row with | [_, _, _, _, i, r] => [r] | _ => []) [some (.own 0), some (optD b), some (DI style), some (DI size), some (DI many), some (.own 2), y, z] [.lst (qs.map DI), gx, .lst (row.map DI)] (DEnds.trim 1 { nx := fun _ C' => P DN C', rt := P }) := by
      intro row h1 h2
      show Ss _ [_] _ _ _
      walk_at "g"
      refine c_tupI rfl (items_own rfl) ?_
      exact rt_at 1 (Nat.le_refl _) (by simp) rfl (by walk_at "ok") (hP' qs row hq h1 h2)
    have hl2 : 1 ≤ row.length ∧ row.length ≤ 121 := by omega
    cases b with
    | none =>
      refine o_notN ⟨_, rfl, fun h => (nomatch h), fun _ => ss_nil (fin row ⟨hl2.1, hl2.2, hr⟩ (fun v hv => nomatch hv))⟩
    | some v =>
      have hv := h2 v rfl
      refine o_notN ⟨_, rfl, fun _ => ?_, fun h => (nomatch h)⟩
      walk_at "g"
      refine ⟨2, row, _, _, rfl, rfl, rfl, rfl, by decide, by omega, ?_⟩
      refine fin (row.set 0 v) ⟨by rw [List.length_set]; exact hl2.1, by rw [List.length_set]; exact hl2.2, fun x hx => ?_⟩ (fun w hw => ?_)
      · rcases List.mem_or_eq_of_mem_set hx with h | h
        · exact hr x h
        · omega
      · cases hw
        exact getD_set_same (by omega)
/-! [.. for x in range(n)] where what is owned goes on -/
theorem lc_range1S {c : Cfg} {ρ : DEnv} {C : List Cont} {P : Den → List Cont → Prop} {a elt : Expr} {p px p2 : Pos} {x : Str} {vs : List Nat} {scope : Scope} (j : Nat) (hv : j ∈ vs) (hg : glB c.sc "range" = true) (hm : c.g.mg "range" = none) (hp : plainArgs [a] = true) (hN : c.N[j]? = some x) (hx : locB (relS scope c.sc) (fun y => scope.names.lookup y == some .cell) x = true)
    (h : Ea c [a] ρ C fun ds C1 => ∃ n : Int, ds = [DI n] ∧ n ≤ 900000 ∧ -(2 ^ 62) ≤ n ∧ ∃ Iv : Nat → List Den → List Cont → Prop, Iv 0 [] C1 ∧ (∀ (i : Nat) acc Cp, (i : Int) < n → Cp.length = C1.length → Iv i acc Cp → Ev (c.blk scope) elt ((forg ρ vs).set j (some (DI (i : Int)))) (Cp ++ [.lst acc]) fun z C4 => ∃ Cp', C4 = Cp' ++ [.lst acc] ∧ Cp'.length = C1.length ∧ Iv (i + 1) (acc ++ [z]) Cp') ∧ ∀ acc Cp, Cp.length = C1.length → Iv n.toNat acc Cp → P (.own C1.length) (Cp ++ [.lst acc])) :
    Lc c scope vs elt (.Name x px) (.Call (.Name "range" p) [a] [] p2) [] ρ C P := by
  refine lc_gen (PI0 := fun xs G C1 => ∃ n : Int, n ≤ 900000 ∧ xs = ((List.range n.toNat).map fun (i : Nat) => DI (0 + (i : Int))) ∧ (∀ C', G C') ∧ ∃ Iv : Nat → List Den → List Cont → Prop, Iv 0 [] C1 ∧ (∀ (i : Nat) acc Cp, (i : Int) < n → Cp.length = C1.length → Iv i acc Cp → Ev (c.blk scope) elt ((forg ρ vs).set j (some (DI (i : Int)))) (Cp ++ [.lst acc]) fun z C4 => ∃ Cp', C4 = Cp' ++ [.lst acc] ∧ Cp'.length = C1.length ∧ Iv (i + 1) (acc ++ [z]) Cp') ∧ ∀ acc Cp, Cp.length = C1.length → Iv n.toNat acc Cp → P (.own C1.length) (Cp ++ [.lst acc])) (ei_range1 hg hm hp ?_) ?_
  · refine fun X hX S ps σ H hc he Q kk => h X hX S ps σ H hc he Q fun S1 ps1 H1 C1 us ds e1 c1 o1 ⟨n, h1, h2, h3, h4⟩ => kk S1 ps1 H1 C1 us ds e1 c1 o1 ⟨n, h1, by omega, h3, n, h2, rfl, fun _ => trivial, h4⟩
  · rintro xs G C1 ⟨n, hn, rfl, hG, Iv, h0, hst, hP⟩
    refine ⟨by simp; omega, Iv, h0, fun i acc Cp _ _ => hG _, ?_, fun acc Cp hl hi => hP acc Cp hl (by simpa using hi)⟩
    intro i d acc Cp hd hl hi
    rw [List.getElem?_map] at hd
    have hlt : i < n.toNat := by
      by_cases z : i < n.toNat
      · exact z
      · rw [List.getElem?_eq_none (by simp; omega)] at hd
        cases hd
    rw [List.getElem?_range hlt] at hd
    have e : DI (0 + (i : Int)) = d := Option.some.inj hd
    subst e
    refine gv_name j hv hN hx (efs_nil ⟨fun _ => ?_, fun z => nomatch z⟩)
    rw [Int.zero_add]
    exact hst i acc Cp (by omega) hl hi
/-! _law_long_powers -/
def powIn (r : List Int) : Prop := r.length = 600 ∧ ∀ x ∈ r, -1 ≤ x ∧ x ≤ 1
abbrev sPowers : DSpec := wrS (A := List Int) (fun _ => [.own 0]) (fun a => a) (fun a => a.length = 3) (fun _ r x => ∃ pw, r = .tuple (intl pw) ∧ powIn pw ∧ x.length = 3)
abbrev nPowers : List Str := ["_law_pot_here", "_law_style", "_law_own", "_law_spot"]
theorem scPowers : FnScope nPowers ["_law_pot_here"] (defScope st__law_long_powers) := ⟨rfl, rfl, rfl, by decide +kernel, rfl, by decide +kernel, by decide +kernel⟩
theorem ok_powers {g : Gx} (F : Got g st__law_long_powers "_law_long_powers" ["_law_pot_here"]) (B : FreeB g freeB) (Ft : FnD g "_law_take" 1 sTake) : FnD g "_law_long_powers" 2 sPowers := by
  refine fn_got F scPowers ?_ ?_
  · rintro args C P ⟨_, _, rfl, _⟩
    rfl
  rintro args C P ⟨ps, rfl, rfl, h1, hP⟩
  show Ss _ (defBody st__law_long_powers) [some (.own 0), none, none, none] [.lst (ps.map DI)] _
  walk_at "s"
  refine s1_asg (vs := [1, 2]) (fun _ => rfl) (sw_env fun _ _ _ _ _ _ _ _ => rfl) (fun _ => rfl) ?_
  walk_at "e"
  walk_at "a"
  refine ev_take 0 Ft rfl rfl rfl ?_
  walk_at "x"
  refine ⟨_, _, rfl, rfl, h1, by decide, by decide, fun style p1 s1 s2 h3 => ?_⟩
  walk_at "a"
  walk_at "e"
  refine ev_take 0 Ft rfl rfl rfl ?_
  walk_at "x"
  refine ⟨_, _, rfl, rfl, h3, by decide, by decide, fun own p2 z1 z2 h4 => ?_⟩
  walk_at "x"
  refine ⟨[.int style, .int (own - 1)], rfl, Nat.le_of_ble_eq_true rfl, ?_⟩
  refine gv_pair 1 2 (by decide) (by decide) rfl rfl rfl rfl ?_
  walk_at "g"
  refine ⟨_, rfl, fun h => ?_, fun h => ?_⟩
  · walk_at "g"
    refine ⟨[.int (own - 1)], rfl, Nat.le_of_ble_eq_true rfl, ?_⟩
    walk_at "x"
    refine o_repT (by simp) (by decide) (by decide) (Nat.le_of_ble_eq_true rfl) ?_
    rw [rep_one]
    refine rt_at 1 (Nat.le_refl _) (Nat.le_refl _) rfl (by walk_at "ok") (hP (.tuple (List.replicate 600 (.int (own - 1)))) _ ⟨List.replicate 600 (own - 1), ?_, ⟨List.length_replicate, fun x hx => ?_⟩, h4⟩)
    · unfold intl
      rw [List.map_replicate]
    · have := List.eq_of_mem_replicate hx
      omega
  · have hs : style ≠ 0 := by simpa using h
    walk_at "g"
    refine ev_comp [("_law_spot", 3)] rfl (fun _ _ => rfl) (lc_range1S 3 (by decide) rfl (FreeB.at B rfl) rfl rfl rfl ?_)
    walk_at "x"
    refine ⟨_, rfl, by decide, by decide, fun i acc Cp => ∃ (qs row : List Int), Cp = [.lst (qs.map DI)] ∧ acc = row.map DI ∧ qs.length = 3 ∧ row.length = i ∧ ∀ x ∈ row, -1 ≤ x ∧ x ≤ 1, ⟨p2, [], rfl, rfl, h4, rfl, by simp⟩, ?_, ?_⟩
    · rintro i acc Cp hi _ ⟨qs, row, rfl, rfl, hq, hl, hr⟩
      have put : ∀ (qs' : List Int) (v : Int), qs'.length = 3 → -1 ≤ v → v ≤ 1 → ∃ Cp', [Cont.lst (qs'.map DI), .lst (row.map DI)] = Cp' ++ [.lst (row.map DI)] ∧ Cp'.length = 1 ∧ ∃ (qs row' : List Int), Cp' = [.lst (qs.map DI)] ∧ row.map DI ++ [DI v] = row'.map DI ∧ qs.length = 3 ∧ row'.length = i + 1 ∧ ∀ x ∈ row', -1 ≤ x ∧ x ≤ 1 := by
        intro qs' v q1 q2 q3
        refine ⟨[.lst (qs'.map DI)], rfl, rfl, qs', row ++ [v], rfl, by rw [List.map_append]; rfl, q1, by simp [hl], fun x hx => ?_⟩
        rcases List.mem_append.mp hx with hx | hx
        · exact hr x hx
        · have : x = v := by simpa using hx
          omega
      walk_at "e"
      walk_at "t"
      refine ev_take 0 Ft rfl rfl rfl ?_
      walk_at "x"
      refine ⟨_, _, rfl, rfl, hq, by omega, by omega, fun d q1 a1 a2 hq1 => ?_⟩
      walk_at "x"
      refine ⟨_, rfl, fun h => ?_, fun h => ?_⟩
      · walk_at "e"
        refine ev_take 0 Ft rfl rfl rfl ?_
        walk_at "x"
        refine ⟨_, _, rfl, rfl, hq1, by decide, by decide, fun d2 q2 b1 b2 hq2 => ?_⟩
        walk_at "x"
        exact put q2 _ hq2 (by omega) (by omega)
      · walk_at "e"
        exact put q1 0 hq1 (by decide) (by decide)
    · rintro acc Cp _ ⟨qs, row, rfl, rfl, hq, hl, hr⟩
      walk_at "x"
      refine c_tupI rfl (items_own rfl) ?_
      exact rt_at 1 (Nat.le_refl _) (by simp) rfl (by walk_at "ok") (hP _ _ ⟨row, rfl, ⟨hl, hr⟩, hq⟩)
/-! rows: plain laws -/
def sg (f : Nat → Int) (k : Nat) : Int := ((List.range k).map f).sum
theorem sg_zero (f : Nat → Int) : sg f 0 = 0 := rfl
theorem sg_succ (f : Nat → Int) (k : Nat) : sg f (k + 1) = sg f k + f k := by
  unfold sg
  rw [List.range_succ, List.map_append, List.sum_append]
  simp
theorem sg_congr {f g : Nat → Int} : ∀ {k : Nat}, (∀ i, i < k → f i = g i) → sg f k = sg g k
  | 0, _ => rfl
  | k + 1, h => by rw [sg_succ, sg_succ, sg_congr fun i hi => h i (by omega), h k (by omega)]
theorem sg_front (f : Nat → Int) : ∀ k, sg f (k + 1) = f 0 + sg (fun i => f (i + 1)) k
  | 0 => by simp [sg_succ, sg_zero]
  | k + 1 => by
    rw [sg_succ, sg_front f k, sg_succ]
    omega
theorem sg_rev (f : Nat → Int) : ∀ n, sg (fun i => f (n - i)) (n + 1) = sg f (n + 1)
  | 0 => rfl
  | n + 1 => by
    rw [sg_front, sg_succ f (n + 1), ← sg_rev f n]
    have e : sg (fun i => f (n + 1 - (i + 1))) (n + 1) = sg (fun i => f (n - i)) (n + 1) := sg_congr fun i hi => by
      rw [Nat.add_sub_add_right]
    rw [e, Nat.sub_zero]
    omega
theorem sg_abs {f : Nat → Int} {B : Nat} : ∀ {k : Nat}, (∀ i, i < k → (f i).natAbs ≤ B) → (sg f k).natAbs ≤ k * B
  | 0, _ => by simp [sg_zero]
  | k + 1, h => by
    rw [sg_succ, Nat.succ_mul]
    have h1 := sg_abs (k := k) fun i hi => h i (by omega)
    have h2 := h k (by omega)
    have h3 := Int.natAbs_add_le (sg f k) (f k)
    omega
theorem sg_cut {f : Nat → Int} {m : Nat} : ∀ {k : Nat}, m + 1 ≤ k → sg (fun i => if i ≤ m then f i else 0) k = sg f (m + 1)
  | 0, h => by omega
  | k + 1, h => by
    rw [sg_succ]
    by_cases hk : m + 1 ≤ k
    · rw [sg_cut hk, if_neg (by omega), Int.add_zero]
    · have : m = k := by omega
      subst this
      rw [sg_succ, if_pos (Nat.le_refl _)]
      congr 1
      exact sg_congr fun i hi => if_pos (by omega)
theorem conv1_sg (xs ys : List Int) (n : Nat) : conv1 xs ys n = sg (fun i => xs.getD i 0 * ys.getD (n - i) 0) (n + 1) := rfl
theorem conv_len (xs ys : List Int) : (conv xs ys).length = min xs.length ys.length := by simp [conv]
theorem conv1_comm (xs ys : List Int) (n : Nat) : conv1 ys xs n = conv1 xs ys n := by
  rw [conv1_sg, conv1_sg, ← sg_rev]
  exact sg_congr fun i hi => by
    show ys.getD (n - i) 0 * xs.getD (n - (n - i)) 0 = _
    rw [Nat.sub_sub_self (by omega), Int.mul_comm]
theorem conv_comm (xs ys : List Int) : conv ys xs = conv xs ys := by
  unfold conv
  rw [Nat.min_comm]
  exact List.map_congr_left fun n _ => conv1_comm xs ys n
theorem getD_map_range {f : Nat → Int} {n m : Nat} (h : m < n) : ((List.range n).map f).getD m 0 = f m := by
  rw [List.getD_eq_getElem?_getD, List.getElem?_map, List.getElem?_range h]
  rfl
theorem getD_conv {xs ys : List Int} {n : Nat} (h : n < min xs.length ys.length) : (conv xs ys).getD n 0 = conv1 xs ys n := getD_map_range h
theorem ext_getD {xs ys : List Int} (hl : xs.length = ys.length) (h : ∀ i, i < xs.length → xs.getD i 0 = ys.getD i 0) : xs = ys := by
  apply List.ext_getElem hl
  intro i h1 h2
  have := h i h1
  rwa [List.getD_eq_getElem?_getD, List.getD_eq_getElem?_getD, List.getElem?_eq_getElem h1, List.getElem?_eq_getElem h2] at this
theorem getD_ge {xs : List Int} {i : Nat} (h : xs.length ≤ i) : xs.getD i 0 = 0 := by
  rw [List.getD_eq_getElem?_getD, List.getElem?_eq_none h]
  rfl
theorem getD_setI {xs : List Int} {i j : Nat} {v : Int} (h : i < xs.length) : (xs.set i v).getD j 0 = if i = j then v else xs.getD j 0 := by
  by_cases hij : i = j
  · subst hij
    rw [if_pos rfl, getD_set_same h]
  · rw [if_neg hij, getD_set_ne hij]
theorem addTo_get (ys : List Int) (i : Nat) (v : Int) (row : List Int) (m : Nat) : ∀ k, i + k ≤ row.length → (addTo ys i v row k).getD m 0 = row.getD m 0 + if i ≤ m ∧ m < i + k then v * ys.getD (m - i) 0 else 0
  | 0, _ => by
    rw [if_neg (by omega), Int.add_zero]
    rfl
  | k + 1, h => by
    rw [addTo_succ, getD_setI (by rw [addTo_len]; omega), addTo_get ys i v row (i + k) k (by omega), addTo_get ys i v row m k (by omega)]
    by_cases h1 : i + k = m
    · subst h1
      rw [if_pos rfl, if_neg (by omega), if_pos (by omega), Int.add_zero, show i + k - i = k by omega]
    · rw [if_neg h1]
      by_cases h2 : i ≤ m ∧ m < i + k
      · rw [if_pos h2, if_pos (by omega)]
      · rw [if_neg h2, if_neg (by omega)]
theorem mulTo_get (xs ys : List Int) (n m : Nat) (hm : m < n) : ∀ k, k ≤ n → (mulTo xs ys n k).getD m 0 = sg (fun i => if i ≤ m then xs.getD i 0 * ys.getD (m - i) 0 else 0) k
  | 0, _ => by
    show (List.replicate n (0 : Int)).getD m 0 = 0
    rw [List.getD_eq_getElem?_getD, List.getElem?_replicate, if_pos hm]
    rfl
  | k + 1, h => by
    have ih := mulTo_get xs ys n m hm k (by omega)
    have eS : mulTo xs ys n (k + 1) = if xs.getD k 0 ≠ 0 then addTo ys k (xs.getD k 0) (mulTo xs ys n k) (n - k) else mulTo xs ys n k := rfl
    rw [eS, sg_succ, ← ih]
    by_cases hz : xs.getD k 0 ≠ 0
    · rw [if_pos hz, addTo_get _ _ _ _ _ _ (by rw [mulTo_len]; omega)]
      by_cases hk : k ≤ m
      · rw [if_pos (by omega), if_pos hk]
      · rw [if_neg (by omega), if_neg hk]
    · rw [if_neg hz]
      have hz : xs.getD k 0 = 0 := by simpa using hz
      rw [hz, Int.zero_mul]
      split <;> omega
theorem mulRow_conv (xs ys : List Int) : mulRow xs ys = conv xs ys := by
  apply ext_getD
  · rw [conv_len]
    exact mulTo_len ..
  · intro m hm
    have hm : m < min xs.length ys.length := by rwa [show (mulRow xs ys).length = _ from mulTo_len ..] at hm
    rw [getD_conv hm]
    show (mulTo xs ys _ _).getD m 0 = _
    rw [mulTo_get _ _ _ _ hm _ (Nat.le_refl _), sg_cut (by omega), conv1_sg]
/-- no number of it beyond A -/
def rowB (A : Nat) (xs : List Int) : Prop := ∀ i, (xs.getD i 0).natAbs ≤ A
theorem rowB_of {A : Nat} {xs : List Int} (h : ∀ x ∈ xs, x.natAbs ≤ A) : rowB A xs := fun i => by
  by_cases hi : i < xs.length
  · exact h _ (getD_mem hi)
  · rw [getD_ge (by omega)]
    simp
theorem rowB.mem {A : Nat} {xs : List Int} (h : rowB A xs) : ∀ x ∈ xs, x.natAbs ≤ A := fun x hx => by
  obtain ⟨i, hi, e⟩ := List.getElem_of_mem hx
  have := h i
  rw [List.getD_eq_getElem?_getD, List.getElem?_eq_getElem hi] at this
  rw [← e]
  exact this
theorem conv_bound {A B L : Nat} {xs ys : List Int} (hx : rowB A xs) (hy : rowB B ys) (hL : xs.length ≤ L) : rowB (L * (A * B)) (conv xs ys) := fun n => by
  by_cases hn : n < min xs.length ys.length
  · rw [getD_conv hn, conv1_sg]
    have h1 : (sg (fun i => xs.getD i 0 * ys.getD (n - i) 0) (n + 1)).natAbs ≤ (n + 1) * (A * B) := sg_abs fun i hi => by
      show (xs.getD i 0 * ys.getD (n - i) 0).natAbs ≤ A * B
      rw [Int.natAbs_mul]
      exact Nat.mul_le_mul (hx i) (hy (n - i))
    exact Nat.le_trans h1 (Nat.mul_le_mul_right _ (by omega))
  · rw [getD_ge (by rw [conv_len]; omega)]
    simp
/-! put_on, taken_off: what stands at each place -/
theorem putTo_get (s : Nat) (row : List Int) (hs : 1 ≤ s) : ∀ k, s + k ≤ row.length → ∀ j, (putTo s row k).getD j 0 = row.getD j 0 + if s ≤ j ∧ j < s + k then (putTo s row k).getD (j - s) 0 else 0
  | 0, _, j => by
    rw [if_neg (by omega), Int.add_zero]
    rfl
  | k + 1, h, j => by
    have ih := putTo_get s row hs k (by omega)
    have e : ∀ m, m < s + k → (putTo s row (k + 1)).getD m 0 = (putTo s row k).getD m 0 := fun m hm => by
      rw [putTo_succ, getD_setI (by rw [putTo_len]; omega), if_neg (by omega)]
    have e2 : (putTo s row (k + 1)).getD (s + k) 0 = (putTo s row k).getD (s + k) 0 + (putTo s row k).getD k 0 := by
      rw [putTo_succ, getD_setI (by rw [putTo_len]; omega), if_pos rfl]
    have e3 : ∀ m, s + k < m → (putTo s row (k + 1)).getD m 0 = (putTo s row k).getD m 0 := fun m hm => by
      rw [putTo_succ, getD_setI (by rw [putTo_len]; omega), if_neg (by omega)]
    by_cases h1 : s + k = j
    · subst h1
      rw [if_pos (by omega), e2, ih (s + k), if_neg (by omega), Int.add_zero, e _ (by omega), show s + k - s = k by omega]
    · by_cases h2 : s ≤ j ∧ j < s + k
      · rw [if_pos (by omega), e j h2.2, ih j, if_pos h2, e (j - s) (by omega)]
      · have h3 : ¬ (s ≤ j ∧ j < s + (k + 1)) := by omega
        rw [if_neg h3, Int.add_zero]
        have h4 : (putTo s row (k + 1)).getD j 0 = (putTo s row k).getD j 0 := by
          by_cases h5 : j < s + k
          · exact e j h5
          · exact e3 j (by omega)
        rw [h4, ih j, if_neg h2, Int.add_zero]
theorem putRow_get {s : Nat} {row : List Int} (hs : 1 ≤ s) (j : Nat) (hj : j < row.length) : (putRow s row).getD j 0 = row.getD j 0 + if s ≤ j then (putRow s row).getD (j - s) 0 else 0 := by
  by_cases hl : s ≤ row.length
  · have := putTo_get s row hs (row.length - s) (by omega) j
    unfold putRow
    rw [this]
    by_cases h2 : s ≤ j
    · rw [if_pos (by omega), if_pos h2]
    · rw [if_neg (by omega), if_neg h2]
  · have e : putRow s row = row := by
      unfold putRow
      rw [show row.length - s = 0 by omega]
      rfl
    rw [e, if_neg (by omega), Int.add_zero]
theorem offTo_get (s : Nat) (row : List Int) (hs : 1 ≤ s) : ∀ k, k + s ≤ row.length → ∀ j, j < row.length → (offTo s row k).getD j 0 = row.getD j 0 - if row.length ≤ j + k then row.getD (j - s) 0 else 0
  | 0, _, j, hj => by
    rw [if_neg (by omega), Int.sub_zero]
    rfl
  | k + 1, h, j, hj => by
    have ih := offTo_get s row hs k (by omega)
    rw [offTo_succ, getD_setI (by rw [offTo_len]; omega)]
    by_cases h1 : row.length - 1 - k = j
    · have q1 : ¬ row.length ≤ j + k := by omega
      have q2 : ¬ row.length ≤ j - s + k := by omega
      have q3 : row.length ≤ j + (k + 1) := by omega
      rw [if_pos h1, if_pos q3, h1, ih j hj, ih (j - s) (by omega), if_neg q1, if_neg q2]
      omega
    · rw [if_neg h1, ih j hj]
      by_cases h2 : row.length ≤ j + k
      · rw [if_pos h2, if_pos (by omega)]
      · rw [if_neg h2, if_neg (by omega)]
theorem offRow_get {s : Nat} {row : List Int} (hs : 1 ≤ s) (j : Nat) (hj : j < row.length) : (offRow s row).getD j 0 = row.getD j 0 - if s ≤ j then row.getD (j - s) 0 else 0 := by
  by_cases hl : s ≤ row.length
  · have := offTo_get s row hs (row.length - s) (by omega) j hj
    unfold offRow
    rw [this]
    by_cases h2 : s ≤ j
    · rw [if_pos (by omega), if_pos h2]
    · rw [if_neg (by omega), if_neg h2]
  · have e : offRow s row = row := by
      unfold offRow
      rw [show row.length - s = 0 by omega]
      rfl
    rw [e, if_neg (by omega), Int.sub_zero]
/-! bounds: no number at n beyond c * 2 ^ n / d -/
def expB (c d : Nat) (row : List Int) : Prop := ∀ n, n < row.length → (row.getD n 0).natAbs * d ≤ c * 2 ^ n
theorem put_exp {c d u v s : Nat} {row : List Int} (hs : 1 ≤ s) (huv : v * 2 ^ s + u ≤ u * 2 ^ s) (hv : v ≤ u) (h : expB c d row) : expB (c * u) (d * v) (putRow s row) := by
  intro n
  induction n using Nat.strongRecOn with
  | _ n ih =>
    intro hn
    rw [putRow_len] at hn
    rw [putRow_get hs n hn]
    have h0 := h n hn
    by_cases hsn : s ≤ n
    · rw [if_pos hsn]
      have h1 := ih (n - s) (by omega) (by rw [putRow_len]; omega)
      have h2 := Int.natAbs_add_le (row.getD n 0) ((putRow s row).getD (n - s) 0)
      have e : 2 ^ n = 2 ^ (n - s) * 2 ^ s := by rw [← Nat.pow_add]; congr 1; omega
      generalize (row.getD n 0).natAbs = a at *
      generalize ((putRow s row).getD (n - s) 0).natAbs = b at *
      generalize (row.getD n 0 + (putRow s row).getD (n - s) 0).natAbs = x at *
      generalize 2 ^ (n - s) = p at *
      generalize 2 ^ s = q at *
      rw [e] at h0 ⊢
      have k1 : x * (d * v) ≤ (a + b) * (d * v) := Nat.mul_le_mul_right _ h2
      have k2 : (a + b) * (d * v) = a * d * v + b * (d * v) := by rw [Nat.add_mul, Nat.mul_assoc]
      have k3 : a * d * v ≤ c * (p * q) * v := Nat.mul_le_mul_right _ h0
      have k4 : c * (p * q) * v + c * u * p = c * p * (v * q + u) := by
        rw [Nat.mul_add, Nat.mul_comm v q, ← Nat.mul_assoc, ← Nat.mul_assoc, Nat.mul_assoc c u p, Nat.mul_comm u p, ← Nat.mul_assoc]
      have k5 : c * p * (v * q + u) ≤ c * p * (u * q) := Nat.mul_le_mul_left _ huv
      have k6 : c * p * (u * q) = c * u * (p * q) := by
        rw [Nat.mul_assoc, Nat.mul_assoc, Nat.mul_left_comm p u q]
      omega
    · rw [if_neg hsn, Int.add_zero]
      generalize (row.getD n 0).natAbs = a at *
      generalize 2 ^ n = p at *
      have k1 : a * (d * v) = a * d * v := (Nat.mul_assoc ..).symm
      have k2 : a * d * v ≤ c * p * v := Nat.mul_le_mul_right _ h0
      have k3 : c * p * v ≤ c * p * u := Nat.mul_le_mul_left _ hv
      have k4 : c * p * u = c * u * p := by rw [Nat.mul_assoc, Nat.mul_comm p u, Nat.mul_assoc]
      omega
theorem off_exp {c d u v s : Nat} {row : List Int} (hs : 1 ≤ s) (huv : v * 2 ^ s + v ≤ u * 2 ^ s) (hv : v ≤ u) (h : expB c d row) : expB (c * u) (d * v) (offRow s row) := by
  intro n hn
  rw [offRow_len] at hn
  rw [offRow_get hs n hn]
  have h0 := h n hn
  by_cases hsn : s ≤ n
  · rw [if_pos hsn]
    have h1 := h (n - s) (by omega)
    have h2 : (row.getD n 0 - row.getD (n - s) 0).natAbs ≤ (row.getD n 0).natAbs + (row.getD (n - s) 0).natAbs := by omega
    have e : 2 ^ n = 2 ^ (n - s) * 2 ^ s := by rw [← Nat.pow_add]; congr 1; omega
    generalize (row.getD n 0 - row.getD (n - s) 0).natAbs = x at *
    generalize (row.getD n 0).natAbs = a at *
    generalize (row.getD (n - s) 0).natAbs = b at *
    generalize 2 ^ (n - s) = p at *
    generalize 2 ^ s = q at *
    rw [e] at h0 ⊢
    have k1 : x * (d * v) ≤ (a + b) * (d * v) := Nat.mul_le_mul_right _ h2
    have k2 : (a + b) * (d * v) = a * d * v + b * d * v := by rw [Nat.add_mul, Nat.mul_assoc, Nat.mul_assoc]
    have k3 : a * d * v ≤ c * (p * q) * v := Nat.mul_le_mul_right _ h0
    have k3' : b * d * v ≤ c * p * v := Nat.mul_le_mul_right _ h1
    have k4 : c * (p * q) * v + c * p * v = c * p * (v * q + v) := by
      rw [Nat.mul_add, Nat.mul_comm v q, ← Nat.mul_assoc, ← Nat.mul_assoc]
    have k5 : c * p * (v * q + v) ≤ c * p * (u * q) := Nat.mul_le_mul_left _ huv
    have k6 : c * p * (u * q) = c * u * (p * q) := by
      rw [Nat.mul_assoc, Nat.mul_assoc, Nat.mul_left_comm p u q]
    omega
  · rw [if_neg hsn, Int.sub_zero]
    generalize (row.getD n 0).natAbs = a at *
    generalize 2 ^ n = p at *
    have k1 : a * (d * v) = a * d * v := (Nat.mul_assoc ..).symm
    have k2 : a * d * v ≤ c * p * v := Nat.mul_le_mul_right _ h0
    have k3 : c * p * v ≤ c * p * u := Nat.mul_le_mul_left _ hv
    have k4 : c * p * u = c * u * p := by rw [Nat.mul_assoc, Nat.mul_comm p u, Nat.mul_assoc]
    omega
theorem expB.mono {c d c' d' : Nat} {row : List Int} (h : expB c d row) (hd : 0 < d) (hc : c * d' ≤ c' * d) : expB c' d' row := fun n hn => by
  have h0 := h n hn
  generalize (row.getD n 0).natAbs = a at *
  generalize 2 ^ n = p at *
  have k1 : a * d * d' ≤ c * p * d' := Nat.mul_le_mul_right _ h0
  have k2 : c * p * d' = c * d' * p := by rw [Nat.mul_assoc, Nat.mul_comm p d', Nat.mul_assoc]
  have k3 : c * d' * p ≤ c' * d * p := Nat.mul_le_mul_right _ hc
  have k4 : c' * d * p = c' * p * d := by rw [Nat.mul_assoc, Nat.mul_comm d p, Nat.mul_assoc]
  have k5 : a * d * d' = a * d' * d := by rw [Nat.mul_assoc, Nat.mul_comm d d', Nat.mul_assoc]
  exact Nat.le_of_mul_le_mul_right (by omega) hd
theorem step_exp {c d u v c' d' s : Nat} {p : Int} {row : List Int} (hs : 1 ≤ s) (h1 : v * 2 ^ s + u ≤ u * 2 ^ s) (h2 : v * 2 ^ s + v ≤ u * 2 ^ s) (hv : v ≤ u) (v0 : 0 < v) (d0 : 0 < d) (hc : c * u * d' ≤ c' * (d * v)) (hp : -1 ≤ p ∧ p ≤ 1) (h : expB c d row) :
    expB c' d' (Nat.repeat (offRow s) (-p).toNat (Nat.repeat (putRow s) p.toNat row)) := by
  have hd : 0 < d * v := Nat.mul_pos d0 v0
  have hz : p = -1 ∨ p = 0 ∨ p = 1 := by omega
  rcases hz with rfl | rfl | rfl
  · exact (off_exp hs h2 hv h).mono hd hc
  · have h3 : expB (c * u) (d * v) row := h.mono d0 (by
      have k1 : c * (d * v) = c * v * d := by rw [Nat.mul_comm d v, Nat.mul_assoc]
      rw [k1]
      exact Nat.mul_le_mul_right _ (Nat.mul_le_mul_left _ hv))
    exact h3.mono hd hc
  · exact (put_exp hs h1 hv h).mono hd hc
/-- of powers of -1, 0, 1 -/
theorem prodTo_exp (ps : List Int) (hp : ∀ p ∈ ps, -1 ≤ p ∧ p ≤ 1) : ∀ k, k + 1 ≤ ps.length → expB (2 * 4 ^ k) (3 ^ k) (prodTo ps (k + 1))
  | 0, h => by
    have h0 : expB 1 1 (prodTo ps 0) := by
      intro n hn
      rw [prodTo_len] at hn
      have h1 : ((([1] ++ List.replicate ps.length 0) : List Int).getD n 0).natAbs ≤ 1 := by
        cases n with
        | zero => exact Nat.le_refl 1
        | succ n =>
          show ((List.replicate ps.length (0 : Int)).getD n 0).natAbs ≤ 1
          rw [List.getD_eq_getElem?_getD, List.getElem?_replicate]
          split <;> decide
      have h2 : 1 ≤ 2 ^ n := Nat.one_le_two_pow
      show ((([1] ++ List.replicate ps.length 0) : List Int).getD n 0).natAbs * 1 ≤ 1 * 2 ^ n
      omega
    exact step_exp (u := 2) (v := 1) (Nat.le_refl _) (by decide) (by decide) (by decide) (by decide) (by decide) (by decide) (hp _ (getD_mem (show 0 < ps.length by omega))) h0
  | k + 1, h => by
    have ih := prodTo_exp ps hp k (by omega)
    have q4 : 4 ≤ 2 ^ (k + 1 + 1) := by
      have e : 2 ^ (k + 1 + 1) = 2 ^ k * 4 := by rw [Nat.pow_succ, Nat.pow_succ, Nat.mul_assoc]
      have h1 : 1 ≤ 2 ^ k := Nat.one_le_two_pow
      omega
    refine step_exp (u := 4) (v := 3) (by omega) (by omega) (by omega) (by decide) (by decide) (Nat.pow_pos (by decide)) ?_ (hp _ (getD_mem (show k + 1 < ps.length by omega))) ih
    rw [Nat.pow_succ, Nat.pow_succ, Nat.mul_assoc 2, Nat.mul_assoc 2]
    exact Nat.le_refl _
theorem prodRow_bound {ps : List Int} (hl : ps.length = 600) (hp : ∀ p ∈ ps, -1 ≤ p ∧ p ≤ 1) : rowB (2 ^ 851) (prodRow ps) := by
  intro n
  by_cases hn : n < (prodRow ps).length
  · have e : (prodRow ps).length = 601 := by
      show (prodTo ps ps.length).length = 601
      rw [prodTo_len, hl]
    have h := prodTo_exp ps hp 599 (by omega)
    rw [show 599 + 1 = ps.length by omega] at h
    have h1 : ((prodRow ps).getD n 0).natAbs * 3 ^ 599 ≤ 2 * 4 ^ 599 * 2 ^ n := h n hn
    have h2 : 2 ^ n ≤ 2 ^ 600 := Nat.pow_le_pow_right (by decide) (by omega)
    have h3 : 2 * 4 ^ 599 * 2 ^ n ≤ 2 * 4 ^ 599 * 2 ^ 600 := Nat.mul_le_mul_left _ h2
    have h4 : 2 * 4 ^ 599 * 2 ^ 600 ≤ 2 ^ 851 * 3 ^ 599 := by decide +kernel
    exact Nat.le_of_mul_le_mul_right (Nat.le_trans h1 (Nat.le_trans h3 h4)) (Nat.pow_pos (by decide))
  · rw [getD_ge (by omega)]
    exact Nat.zero_le _
theorem prodRow_len (ps : List Int) : (prodRow ps).length = ps.length + 1 := prodTo_len ps _
/-! rows of whole numbers compared -/
theorem eqv_ints : ∀ xs ys : List Int, PyData.eqvAll (intl xs) (intl ys) = decide (xs = ys)
  | [], [] => by simp [PyData.eqvAll]
  | [], _ :: _ => by simp [PyData.eqvAll]
  | _ :: _, [] => by simp [PyData.eqvAll]
  | x :: xs, y :: ys => by
    show PyData.eqvAll (.int x :: intl xs) (.int y :: intl ys) = _
    rw [PyData.eqvAll, PyData.eqv, eqv_ints xs ys]
    by_cases h1 : x = y
    · subst h1
      simp
    · have h2 : (x == y) = false := beq_eq_false_iff_ne.mpr h1
      rw [h2]
      simp [h1]
theorem shaped_ints (xs : List Int) : SeqAt.shaped (.tuple (intl xs)) = true := by
  have h1 : ∀ xs : List Int, PyData.canLayAll0 (intl xs) = true ∧ PyData.depthAll (intl xs) = 0 := by
    intro xs
    induction xs with
    | nil => exact ⟨rfl, rfl⟩
    | cons x xs ih =>
      constructor
      · show PyData.canLayAll0 (.int x :: intl xs) = true
        rw [PyData.canLayAll0, ih.1, PyData.canLay0]
        rfl
      · show PyData.depthAll (.int x :: intl xs) = 0
        rw [PyData.depthAll, ih.2]
        rfl
  unfold SeqAt.shaped
  rw [PyData.canLay0, (h1 xs).1, PyData.depth, (h1 xs).2]
  rfl
theorem o_eqR {c : Cfg} {C : List Cont} {P : Den → List Cont → Prop} {xs ys : List Int} (h : P (DB (decide (xs = ys))) C) : Op c (.c .Eq) [DTu (intl xs), DTu (intl ys)] C P := by
  refine o_eq (.dat _) (.dat _) (shaped_ints xs) (shaped_ints ys) ?_
  rw [PyData.eqv, eqv_ints]
  exact h
theorem o_neR {c : Cfg} {C : List Cont} {P : Den → List Cont → Prop} {xs ys : List Int} (h : P (DB (!decide (xs = ys))) C) : Op c (.c .NotEq) [DTu (intl xs), DTu (intl ys)] C P := by
  refine o_ne (.dat _) (.dat _) (shaped_ints xs) (shaped_ints ys) ?_
  rw [PyData.eqv, eqv_ints]
  exact h
/-! the law -/
theorem rowIn_B {xs : List Int} (h : rowIn xs) : rowB 1000000 xs := rowB_of fun x hx => by
  have := h.2.2 x hx
  omega
theorem mulOk_B {A : Nat} {xs ys : List Int} (h : rowB A xs) (hA : A < 2 ^ 1000) (h' : rowB A ys) : ∀ x ∈ xs, ∀ y ∈ ys, MulOk x y := fun x hx y hy =>
  MulOk.w (a := 1000) (b := 1000) (Nat.lt_of_le_of_lt (h.mem x hx) hA) (Nat.lt_of_le_of_lt (h'.mem y hy) hA) (by decide) (by decide) (by decide)
theorem rowB.mono {A B : Nat} {xs : List Int} (h : rowB A xs) (hAB : A ≤ B) : rowB B xs := fun i => Nat.le_trans (h i) hAB
theorem rowB.ok {A : Nat} {xs : List Int} (h : rowB A xs) (hA : A < 2 ^ 1900) (hl : xs.length ≤ 2000) : rowOk xs := ⟨hl, fun n hn => Nat.lt_of_le_of_lt (h.mem n hn) hA⟩
abbrev sLaw : DSpec := pureS (A := List Int) (fun a => [.rdl (intl a)]) (fun a => a.length ≤ 63) (fun _ r => r = .bool true)
abbrev nLaw : List Str := ["_law_script", "_law_k", "_law_pot_here", "_law_one", "_law_other", "_law_found"]
theorem scLaw : FnScope nLaw ["_law_script"] (defScope st_law) := ⟨rfl, rfl, rfl, by decide +kernel, rfl, by decide +kernel, by decide +kernel⟩
theorem beginAt (d : Int) (h0 : 0 ≤ d) (h1 : d < 3) : ∃ b : Option Int, atI [DN, DI 1, DI 0] d = some (optD b) ∧ ∀ v, b = some v → -1 ≤ v ∧ v ≤ 1 := by
  have hd : d = 0 ∨ d = 1 ∨ d = 2 := by omega
  rcases hd with rfl | rfl | rfl
  · exact ⟨none, rfl, fun v h => nomatch h⟩
  · exact ⟨some 1, rfl, fun v h => by cases h; decide⟩
  · exact ⟨some 0, rfl, fun v h => by cases h; decide⟩
theorem ok_law {g : Gx} (F : Got g st_law "law" ["_law_script"]) (B : FreeB g freeB) (Fpot : FnD g "_law_pot" 1 sPot) (Ft : FnD g "_law_take" 1 sTake) (Frow : FnD g "_law_row" 2 sRow) (Ftimes : FnD g "times" 1 sTimes) (FtL : FnD g "_law_times" 1 sTimesL)
    (FiT : FnD g "_law_is" 1 sIsT) (FiL : FnD g "_law_is" 1 sIsL) (Fprod : FnD g "product" 2 sProduct) (Fpow : FnD g "_law_long_powers" 2 sPowers) : FnD g "law" 3 sLaw := by
  refine fn_got F scLaw ?_ ?_
  · rintro args C P ⟨_, _, rfl, _⟩
    rfl
  rintro args C P ⟨rfl, ns, rfl, h1, hP⟩
  have h1 : ns.length ≤ 63 := h1
  show Ss _ (defBody st_law) [some (.rdl (intl ns)), none, none, none, none, none] [] _
  walk_at "s"
  refine s1_range1 1 rfl (FreeB.at B rfl) rfl rfl rfl ?_
  walk_at "g"
  refine ⟨_, rfl, by split <;> omega, by split <;> omega, fun i ρ C => ∃ a b c d e, ρ = [some (.rdl (intl ns)), a, b, c, d, e] ∧ C = [], ⟨_, _, _, _, _, rfl, rfl⟩, ?_, ?_⟩
  · rintro k ρ C hk ⟨a, b, c, d, e, rfl, rfl⟩
    have hk : k ≤ 1000000 := by split at hk <;> omega
    walk_at "g"
    refine ev_fnO Fpot (Nat.le_of_ble_eq_true rfl) rfl rfl rfl ?_
    walk_at "x"
    refine ⟨rfl, (ns, k), rfl, ⟨by show ns.length ≤ 1000; omega, hk⟩, ?_⟩
    rintro r ⟨p, q, rfl⟩
    rw [intl_dat]
    walk_at "s"
    refine s1_par 3 4 rfl rfl (by decide) rfl rfl (sw_env fun _ _ _ _ _ _ _ _ => rfl) ?_
    walk_at "a"
    refine ev_fnW 0 Frow (Nat.le_of_ble_eq_true rfl) rfl rfl rfl ?_
    walk_at "x"
    refine ⟨rfl, (_, none), rfl, rfl, ⟨rfl, fun v h => nomatch h⟩, ?_⟩
    rintro _ p1 ⟨xs, rfl, hxs, _, l1⟩
    walk_at "a"
    refine ev_fnW 0 Frow (Nat.le_of_ble_eq_true rfl) rfl rfl rfl ?_
    walk_at "a"
    walk_at "e"
    walk_at "a"
    walk_at "e"
    walk_at "x"
    refine ⟨Nat.le_of_ble_eq_true rfl, ?_⟩
    refine ev_take 0 Ft rfl rfl rfl ?_
    walk_at "x"
    refine ⟨_, _, rfl, rfl, l1, by decide, by decide, fun d1 p2 s1 s2 l2 => ?_⟩
    obtain ⟨b0, hb0, hb1⟩ := beginAt d1 s1 s2
    refine x_seq (items_own rfl) hb0 ?_
    walk_at "x"
    refine ⟨by cases b0 <;> rfl, (p2, b0), rfl, by cases b0 <;> rfl, ⟨l2, hb1⟩, ?_⟩
    rintro _ p3 ⟨ys, rfl, hys, _, l3⟩
    walk_at "x"
    refine ⟨_, _, rfl, ?_⟩
    have bx := rowIn_B hxs
    have bY := rowIn_B hys
    have lx := hxs.2.1
    have ly := hys.2.1
    have bc : rowB (121 * (1000000 * 1000000)) (conv xs ys) := conv_bound bx bY lx
    have lc : (conv xs ys).length ≤ 121 := by rw [conv_len]; omega
    have bc2 : rowB (121 * (121 * (1000000 * 1000000) * 1000000)) (conv (conv xs ys) xs) := conv_bound bc bx lc
    have lc2 : (conv (conv xs ys) xs).length ≤ 121 := by rw [conv_len]; omega
    have bcx : rowB (121 * (1000000 * 1000000)) xs := bx.mono (by decide)
    have o1 : rowOk (conv xs ys) := bc.ok (by decide +kernel) (by omega)
    have o2 : rowOk (conv (conv xs ys) xs) := bc2.ok (by decide +kernel) (by omega)
    have m1 := mulOk_B bx (by decide +kernel) bY
    have m2 := mulOk_B bY (by decide +kernel) bx
    have m3 := mulOk_B bc (by decide +kernel) bcx
    walk_at "s"
    walk_at "s"
    refine ev_fnP Ftimes (Nat.le_of_ble_eq_true rfl) rfl rfl rfl ?_
    walk_at "x"
    refine ⟨rfl, (xs, ys), rfl, ⟨by show xs.length ≤ 1000; omega, by show ys.length ≤ 1000; omega, m1⟩, ?_⟩
    rintro _ rfl
    walk_at "s"
    walk_at "s"
    walk_at "t"
    refine ew_or ?_
    walk_at "t"
    refine et_val (fun _ _ => rfl) ?_
    refine ev_fnW 2 FiL (Nat.le_of_ble_eq_true rfl) rfl rfl rfl ?_
    walk_at "x"
    refine ev_fnO FtL (Nat.le_of_ble_eq_true rfl) rfl rfl rfl ?_
    walk_at "x"
    refine ⟨rfl, (xs, ys), rfl, ⟨by show xs.length ≤ 1000; omega, by show ys.length ≤ 1000; omega, m1⟩, ?_⟩
    rintro _ rfl
    walk_at "x"
    rw [mulRow_conv, intl_dat]
    refine ⟨rfl, conv xs ys, rfl, rfl, o1, ?_⟩
    rintro _ _ ⟨rfl, rfl⟩
    refine ⟨_, rfl, fun _ => ?_, fun z => (nomatch z)⟩
    walk_at "t"
    walk_at "t"
    refine et_val (fun _ _ => rfl) ?_
    refine ev_fnP FiT (Nat.le_of_ble_eq_true rfl) rfl rfl rfl ?_
    walk_at "a"
    refine ev_fnP Ftimes (Nat.le_of_ble_eq_true rfl) rfl rfl rfl ?_
    walk_at "x"
    refine ⟨rfl, (ys, xs), rfl, ⟨by show ys.length ≤ 1000; omega, by show xs.length ≤ 1000; omega, m2⟩, ?_⟩
    rintro _ rfl
    walk_at "x"
    refine ⟨rfl, conv xs ys, by rw [conv_comm], o1, ?_⟩
    rintro _ rfl
    refine ⟨_, rfl, fun z => (nomatch z), fun _ => ?_⟩
    walk_at "s"
    walk_at "s"
    walk_at "s"
    walk_at "t"
    refine ew_or ?_
    walk_at "t"
    refine et_val (fun _ _ => rfl) ?_
    refine ev_fnW 3 FiL (Nat.le_of_ble_eq_true rfl) rfl rfl rfl ?_
    walk_at "a"
    refine ev_fnP Ftimes (Nat.le_of_ble_eq_true rfl) rfl rfl rfl ?_
    walk_at "x"
    refine ⟨rfl, (conv xs ys, xs), rfl, ⟨by show (conv xs ys).length ≤ 1000; omega, by show xs.length ≤ 1000; omega, m3⟩, ?_⟩
    rintro _ rfl
    walk_at "a"
    refine ev_fnO FtL (Nat.le_of_ble_eq_true rfl) rfl rfl rfl ?_
    walk_at "x"
    refine ⟨rfl, (conv xs ys, xs), rfl, ⟨by show (conv xs ys).length ≤ 1000; omega, by show xs.length ≤ 1000; omega, m3⟩, ?_⟩
    rintro _ rfl
    walk_at "x"
    rw [mulRow_conv, intl_dat]
    refine ⟨rfl, conv (conv xs ys) xs, rfl, rfl, o2, ?_⟩
    rintro _ _ ⟨rfl, rfl⟩
    refine ⟨_, rfl, fun _ => ?_, fun z => (nomatch z)⟩
    walk_at "t"
    walk_at "t"
    refine ev_fnP Ftimes (Nat.le_of_ble_eq_true rfl) rfl rfl rfl ?_
    walk_at "x"
    refine ⟨rfl, (xs, ys), rfl, ⟨by show xs.length ≤ 1000; omega, by show ys.length ≤ 1000; omega, m1⟩, ?_⟩
    rintro _ rfl
    walk_at "x"
    refine o_neR ?_
    rw [decide_eq_true rfl]
    refine ⟨_, rfl, fun z => (nomatch z), fun _ => ss_nil ?_⟩
    exact nx_forg 0 [2] (Nat.le_refl _) (Nat.zero_le _) rfl rfl rfl ⟨_, _, _, _, _, rfl, rfl⟩
  · rintro ρ C ⟨a, b, c, d, e, rfl, rfl⟩
    walk_at "g"
    refine ev_fnO Fpot (Nat.le_of_ble_eq_true rfl) rfl rfl rfl ?_
    walk_at "x"
    refine ⟨rfl, (ns, 0), rfl, ⟨by show ns.length ≤ 1000; omega, Nat.zero_le _⟩, ?_⟩
    rintro r ⟨p, q, rfl⟩
    rw [intl_dat]
    walk_at "s"
    refine s1_par 3 4 rfl rfl (by decide) rfl rfl (sw_env fun _ _ _ _ _ _ _ _ => rfl) ?_
    walk_at "a"
    refine ev_fnP Fprod (Nat.le_of_ble_eq_true rfl) rfl rfl rfl ?_
    walk_at "a"
    refine ev_fnW 0 Fpow (Nat.le_of_ble_eq_true rfl) rfl rfl rfl ?_
    walk_at "x"
    refine ⟨rfl, _, rfl, rfl, rfl, ?_⟩
    rintro _ p1 ⟨ps, rfl, hp, l1⟩
    walk_at "x"
    have hp2 : ∀ x ∈ ps, -(2 ^ 61) ≤ x ∧ x ≤ 2 ^ 61 := fun x hx => by
      have := hp.2 x hx
      omega
    refine ⟨rfl, ps, rfl, ⟨by rw [hp.1]; decide, hp2⟩, ?_⟩
    rintro _ rfl
    walk_at "a"
    refine ev_fnP Fprod (Nat.le_of_ble_eq_true rfl) rfl rfl rfl ?_
    walk_at "a"
    refine ev_fnW 0 Fpow (Nat.le_of_ble_eq_true rfl) rfl rfl rfl ?_
    walk_at "x"
    refine ⟨rfl, p1, rfl, rfl, l1, ?_⟩
    rintro _ p2 ⟨qs, rfl, hq, l2⟩
    walk_at "x"
    have hq2 : ∀ x ∈ qs, -(2 ^ 61) ≤ x ∧ x ≤ 2 ^ 61 := fun x hx => by
      have := hq.2 x hx
      omega
    refine ⟨rfl, qs, rfl, ⟨by rw [hq.1]; decide, hq2⟩, ?_⟩
    rintro _ rfl
    walk_at "x"
    refine ⟨_, _, rfl, ?_⟩
    have b1 := prodRow_bound hp.1 hp.2
    have b2 := prodRow_bound hq.1 hq.2
    have lp : (prodRow ps).length = 601 := by rw [prodRow_len, hp.1]
    have lq : (prodRow qs).length = 601 := by rw [prodRow_len, hq.1]
    generalize prodRow ps = xs at *
    generalize prodRow qs = ys at *
    have bc : rowB (601 * (2 ^ 851 * 2 ^ 851)) (conv xs ys) := conv_bound b1 b2 (by omega)
    have lc : (conv xs ys).length ≤ 601 := by rw [conv_len]; omega
    have o1 : rowOk (conv xs ys) := bc.ok (by decide +kernel) (by omega)
    have m1 := mulOk_B b1 (by decide +kernel) b2
    walk_at "s"
    walk_at "s"
    refine ev_and ?_
    refine ev_fnW 1 FiL (Nat.le_of_ble_eq_true rfl) rfl rfl rfl ?_
    walk_at "a"
    refine ev_fnP Ftimes (Nat.le_of_ble_eq_true rfl) rfl rfl rfl ?_
    walk_at "x"
    refine ⟨rfl, (xs, ys), rfl, ⟨by show xs.length ≤ 1000; omega, by show ys.length ≤ 1000; omega, m1⟩, ?_⟩
    rintro _ rfl
    walk_at "a"
    refine ev_fnO FtL (Nat.le_of_ble_eq_true rfl) rfl rfl rfl ?_
    walk_at "x"
    refine ⟨rfl, (xs, ys), rfl, ⟨by show xs.length ≤ 1000; omega, by show ys.length ≤ 1000; omega, m1⟩, ?_⟩
    rintro _ rfl
    walk_at "x"
    rw [mulRow_conv, intl_dat]
    refine ⟨rfl, conv xs ys, rfl, rfl, o1, ?_⟩
    rintro _ _ ⟨rfl, rfl⟩
    refine ⟨_, rfl, fun _ => ?_, fun z => (nomatch z)⟩
    refine ev_one ?_
    walk_at "e"
    refine ev_fnP Ftimes (Nat.le_of_ble_eq_true rfl) rfl rfl rfl ?_
    walk_at "x"
    refine ⟨[.int 5], rfl, by decide, ?_⟩
    walk_at "x"
    refine ⟨[.int 7, .int 1], rfl, by decide, ?_⟩
    walk_at "x"
    refine ⟨rfl, ([5], [7, 1]), rfl, ⟨by decide, by decide, mulOk_B (A := 10) (rowB_of (by decide)) (by decide +kernel) (rowB_of (by decide))⟩, ?_⟩
    rintro _ rfl
    walk_at "x"
    refine ⟨[.int 35], rfl, by decide, ?_⟩
    refine o_eqR (ys := [35]) ?_
    exact rt_at 0 (Nat.le_refl _) (Nat.zero_le _) rfl rfl (hP _ rfl)
/-! the head: facts by names -/
def fnH : List He.DefD := [⟨("times", none), "times", "times", defArgs st_times, defBody st_times, defScope st_times, [], []⟩, ⟨("put_on", none), "put_on", "put_on", defArgs st_put_on, defBody st_put_on, defScope st_put_on, [], []⟩, ⟨("taken_off", none), "taken_off", "taken_off", defArgs st_taken_off, defBody st_taken_off, defScope st_taken_off, [], []⟩, ⟨("product", none), "product", "product", defArgs st_product, defBody st_product, defScope st_product, [], []⟩, ⟨("_law_pot", none), "_law_pot", "_law_pot", defArgs st__law_pot, defBody st__law_pot, defScope st__law_pot, [], []⟩, ⟨("_law_take", none), "_law_take", "_law_take", defArgs st__law_take, defBody st__law_take, defScope st__law_take, [], []⟩, ⟨("_law_is", none), "_law_is", "_law_is", defArgs st__law_is, defBody st__law_is, defScope st__law_is, [], []⟩, ⟨("_law_row", none), "_law_row", "_law_row", defArgs st__law_row, defBody st__law_row, defScope st__law_row, [], []⟩, ⟨("_law_times", none), "_law_times", "_law_times", defArgs st__law_times, defBody st__law_times, defScope st__law_times, [], []⟩, ⟨("_law_long_powers", none), "_law_long_powers", "_law_long_powers", defArgs st__law_long_powers, defBody st__law_long_powers, defScope st__law_long_powers, [], []⟩, ⟨("law", none), "law", "law", defArgs st_law, defBody st_law, defScope st_law, [], []⟩]
def faG : List He.Fa := [.glo "times", .glo "put_on", .glo "taken_off", .glo "product", .glo "_law_pot", .glo "_law_take", .glo "_law_is", .glo "_law_row", .glo "_law_times", .glo "_law_long_powers", .glo "law"]
def faH : List He.Fa := faG ++ freeB.map .free
abbrev rowH : PySem.W.OpenRow := PySem.W.OpenLaw.row PySem.Challenge.rw_partrests_k18_rows_multiplied
abbrev hkH : PySem.W.Hook := He.hookD 4 faH fnH
def obH (s : PySem.W.SharedT) : He.AlD := He.obsDG 4 faH fnH (HandSHeadRun.getT s)
theorem obH_eq (s : PySem.W.SharedT) : obH s = hkH.obs s.abs := He.obsDG_eq (HandSHeadRun.getT_eq s)
def looseH : List Str := ["__name__", "times", "put_on", "taken_off", "product", "_law_pot", "_law_take", "_law_is", "_law_row", "_law_times", "_law_long_powers"]
theorem runH (w : World) : HandSHeadRun.RunEq rowH (PySem.W.view rowH.prog [13]) hkH obH 4000 looseH w := by
  intro os
  kernel_rfl
theorem all_ok {g : Gx} {h : Heap} (KX : g.K.In h) (G : h.Ns mainGlobals g.mg) (c : He.SaysD faH fnH g.K) : FnD g "law" 3 sLaw := by
  have B : FreeB g freeB := FreeB.of c KX G freeB fun x hx => List.mem_append_right _ (List.mem_map_of_mem hx)
  have g_times : Got g st_times "times" ["one", "other"] := got_of c KX G 0 0 rfl rfl (fun _ _ _ _ _ _ us hl => match us, hl with | [_, _], _ => rfl)
  have g_put_on : Got g st_put_on "put_on" ["row", "size"] := got_of c KX G 1 1 rfl rfl (fun _ _ _ _ _ _ us hl => match us, hl with | [_, _], _ => rfl)
  have g_taken_off : Got g st_taken_off "taken_off" ["row", "size"] := got_of c KX G 2 2 rfl rfl (fun _ _ _ _ _ _ us hl => match us, hl with | [_, _], _ => rfl)
  have g_product : Got g st_product "product" ["powers"] := got_of c KX G 3 3 rfl rfl (fun _ _ _ _ _ _ us hl => match us, hl with | [_], _ => rfl)
  have g__law_pot : Got g st__law_pot "_law_pot" ["_law_script", "_law_k"] := got_of c KX G 4 4 rfl rfl (fun _ _ _ _ _ _ us hl => match us, hl with | [_, _], _ => rfl)
  have g__law_take : Got g st__law_take "_law_take" ["_law_pot_here", "_law_many"] := got_of c KX G 5 5 rfl rfl (fun _ _ _ _ _ _ us hl => match us, hl with | [_, _], _ => rfl)
  have g__law_is : Got g st__law_is "_law_is" ["_law_found", "_law_due"] := got_of c KX G 6 6 rfl rfl (fun _ _ _ _ _ _ us hl => match us, hl with | [_, _], _ => rfl)
  have g__law_row : Got g st__law_row "_law_row" ["_law_pot_here", "_law_begin"] := got_of c KX G 7 7 rfl rfl (fun _ _ _ _ _ _ us hl => match us, hl with | [_, _], _ => rfl)
  have g__law_times : Got g st__law_times "_law_times" ["_law_one", "_law_other"] := got_of c KX G 8 8 rfl rfl (fun _ _ _ _ _ _ us hl => match us, hl with | [_, _], _ => rfl)
  have g__law_long_powers : Got g st__law_long_powers "_law_long_powers" ["_law_pot_here"] := got_of c KX G 9 9 rfl rfl (fun _ _ _ _ _ _ us hl => match us, hl with | [_], _ => rfl)
  have g_law : Got g st_law "law" ["_law_script"] := got_of c KX G 10 10 rfl rfl (fun _ _ _ _ _ _ us hl => match us, hl with | [_], _ => rfl)
  have f_take := ok_take g__law_take
  exact ok_law g_law B (ok_pot g__law_pot B) f_take (ok_row g__law_row B f_take) (ok_times g_times B) (ok_timesL g__law_times B) (ok_isT g__law_is B) (ok_isL g__law_is B) (ok_product g_product B (ok_put_on g_put_on B) (ok_taken_off g_taken_off B)) (ok_powers g__law_long_powers B f_take)
end DL
open PySem PySem.W PySem.Calls PyProof.Rows
set_option maxHeartbeats 0 in
theorem PySem.Challenge.cw_partrests_k18_rows_multiplied_holds : PySem.Challenge.rw_partrests_k18_rows_multiplied.Holds := by
  w_on; o_law
  refine HandSHeadRun.head_any (r := OpenLaw.row PySem.Challenge.rw_partrests_k18_rows_multiplied) (q := view (OpenLaw.row PySem.Challenge.rw_partrests_k18_rows_multiplied).prog [13]) (H := DL.hkH) (ob := DL.obH) (M := 4000) (loose := DL.looseH) (d := HandSHeadRun.topDef (OpenLaw.row PySem.Challenge.rw_partrests_k18_rows_multiplied).prog 13) (kwd := []) DL.obH_eq
    (by kernel_rfl) (fun s => by kernel_rfl) DL.runH (by kernel_rfl) (by kernel_rfl) (by kernel_rfl) (by rfl) (by first | assumption | decide +kernel) (by decide +kernel) ⟨rfl, rfl, rfl, rfl, rfl, by decide +kernel⟩ ?hw ?hc
  case hw => w_witness2
  case hc =>
    refine DL.walkD (l := PySem.Challenge.rw_partrests_k18_rows_multiplied) (n := 63) (k := 3) (ds := DL.sLaw) rfl (by decide) (by kernel_rfl) ⟨rfl, by decide, by decide⟩ (fun ns P hl hP => ⟨rfl, ns, rfl, hl, fun r hr => by subst hr; exact hP⟩) fun w mg h Y G => ?_
    obtain ⟨K, KX, c⟩ := Y
    refine ⟨K, KX, fun base hb hg => ?_⟩
    have e : (HandSHeadRun.topDef (OpenLaw.row PySem.Challenge.rw_partrests_k18_rows_multiplied).prog 13).name = ("law" : PySem.Str) := by kernel_rfl
    rw [e]
    exact DL.all_ok (g := ⟨_, w, K, mg, base⟩) KX G c
