import PyProof.Rows.All
import Wide.All
import OpenK.AllK
import Wide.FinOn
import PySem.Challenge.RW_xm0136_01
set_option Elab.async false
set_option maxRecDepth 100000
set_option linter.unusedVariables false
set_option linter.unusedSimpArgs false
-- F1
namespace Mine
open PySem PySem.W PyProof.Rows
noncomputable def PlainT (h : Heap) (a : Addr) (vs : Array Value) : Prop := ∃ n, h.get? a = some { cls := .type "tuple", dict := none, data := .seq vs n, slots := #[] }
inductive D where
  | none | bool (b : Bool) | int (i : Int) | str (x : Str)
  | tup (l : List D) | lst (l : List D) | ref (k : Nat) | scr (l : List D)
noncomputable abbrev Sto := List (List D)
/-- the addresses of the store's lists; those of lists that are being built -/
structure Mu where
  l : List Addr
  r : List Addr
noncomputable instance : Membership Addr Mu := ⟨fun μ a => a ∈ μ.l ∨ a ∈ μ.r⟩
theorem mem_mu {a : Addr} {μ : Mu} : a ∈ μ ↔ a ∈ μ.l ∨ a ∈ μ.r := Iff.rfl
noncomputable def Mu.add (μ : Mu) (ν : List Addr) : Mu := ⟨μ.l ++ ν, μ.r⟩
noncomputable abbrev Gam := List (Option D)
noncomputable abbrev Cmd := Gam → Sto → Option (D × Sto)
noncomputable abbrev Fn := List D → Sto → Option (D × Sto)
mutual
inductive Rep (h : Heap) (μ : Mu) : Value → D → Prop
  | none : Rep h μ .none .none
  | bool (b) : Rep h μ (.bool b) (.bool b)
  | int (i t) : Rep h μ (.int i t) (.int i)
  | str (x t) : Rep h μ (.str x t) (.str x)
  | tup {a vs l} : PlainT h a vs.toArray → a ∉ μ → RepL h μ vs l → Rep h μ (.ref a) (.tup l)
  | lst {a vs l} : h.PlainList a vs.toArray → a ∉ μ → RepL h μ vs l → Rep h μ (.ref a) (.lst l)
  | scr {a vs l} : h.IsList a vs.toArray → a ∉ μ → RepL h μ vs l → Rep h μ (.ref a) (.scr l)
  | ref {a : Addr} {k : Nat} : μ.l[k]? = some a → Rep h μ (.ref a) (.ref k)
inductive RepL (h : Heap) (μ : Mu) : List Value → List D → Prop
  | nil : RepL h μ [] []
  | cons {v vs d ds} : Rep h μ v d → RepL h μ vs ds → RepL h μ (v :: vs) (d :: ds)
end
theorem nodup_idx {α : Type} : ∀ {l : List α}, l.Nodup → ∀ {i j : Nat} {a : α}, l[i]? = some a → l[j]? = some a → i = j
  | [], _, i, j, a, e, _ => by simp at e
  | x :: l, hn, 0, 0, a, _, _ => rfl
  | x :: l, hn, 0, j + 1, a, e, e' => by
    simp at e e'; subst e
    exact absurd (List.mem_of_getElem? e') (List.nodup_cons.mp hn).1
  | x :: l, hn, i + 1, 0, a, e, e' => by
    simp at e e'; subst e'
    exact absurd (List.mem_of_getElem? e) (List.nodup_cons.mp hn).1
  | x :: l, hn, i + 1, j + 1, a, e, e' => by
    simp at e e'; rw [nodup_idx (List.nodup_cons.mp hn).2 e e']
/-- what stays from (h, μ) to (h', μ'), but for the addresses of O -/
structure Ext (O : Addr → Prop) (h : Heap) (μ : Mu) (h' : Heap) (μ' : Mu) : Prop where
  keep : ∀ b o, h.get? b = some o → b ∉ μ.l → ¬ O b → h'.get? b = some o
  pre : ∃ ν, μ' = μ.add ν ∧ ∀ a ∈ ν, a ∉ μ ∧ (h.get? a = none ∨ O a)
noncomputable abbrev No : Addr → Prop := fun _ => False
noncomputable def NoSeq (O : Addr → Prop) (h : Heap) : Prop := ∀ a o, O a → h.get? a = some o → ∀ xs n, o.data ≠ .seq xs n
noncomputable def Flds (O : Addr → Prop) (h : Heap) : Prop := ∀ a o, O a → h.get? a = some o → ∃ vs, o.data = .fields vs
noncomputable def DC (O : Addr → Prop) (h : Heap) : Prop := ∀ a o, O a → h.get? a = some o → (∃ es n, o.data = .dict es n) ∨ ∃ v, o.data = .cell v
theorem NoSeq.no (h : Heap) : NoSeq No h := fun _ _ x => x.elim
theorem Flds.no (h : Heap) : Flds No h := fun _ _ x => x.elim
theorem DC.no (h : Heap) : DC No h := fun _ _ x => x.elim
theorem Flds.noSeq {O h} (x : Flds O h) : NoSeq O h := fun a o ho e xs n q => by
  obtain ⟨vs, hv⟩ := x a o ho e; rw [hv] at q; cases q
theorem DC.noSeq {O h} (x : DC O h) : NoSeq O h := fun a o ho e xs n q => by
  rcases x a o ho e with ⟨es, m, hv⟩ | ⟨v, hv⟩ <;> (rw [hv] at q; cases q)
theorem Ext.refl (O : Addr → Prop) (h : Heap) (μ : Mu) : Ext O h μ h μ := ⟨fun _ _ e _ _ => e, [], by simp [Mu.add], by simp⟩
theorem Ext.mono {O O' : Addr → Prop} {h μ h' μ'} (x : Ext O h μ h' μ') (hO : ∀ a, O a → O' a) : Ext O' h μ h' μ' :=
  ⟨fun b o e hb hn => x.keep b o e hb fun q => hn (hO b q), let ⟨ν, e, h⟩ := x.pre; ⟨ν, e, fun a ha => ⟨(h a ha).1, (h a ha).2.imp id (hO a)⟩⟩⟩
theorem Ext.of {O : Addr → Prop} {h μ h' μ'} (x : Ext No h μ h' μ') : Ext O h μ h' μ' := x.mono fun _ f => f.elim
theorem Ext.notIn {O : Addr → Prop} {h μ h' μ'} (x : Ext O h μ h' μ') {b : Addr} {o : Obj} (e : h.get? b = some o) (hb : b ∉ μ) (hO : ¬ O b) : b ∉ μ' := by
  obtain ⟨ν, rfl, hν⟩ := x.pre
  intro hm
  rcases hm with hm | hm
  · rcases List.mem_append.mp hm with q | q
    · exact hb (.inl q)
    · rcases (hν _ q).2 with q | q
      · rw [q] at e; cases e
      · exact hO q
  · exact hb (.inr hm)
theorem Ext.notInL {O : Addr → Prop} {h μ h' μ'} (x : Ext O h μ h' μ') {b : Addr} {o : Obj} (e : h.get? b = some o) (hb : b ∉ μ.l) (hO : ¬ O b) : b ∉ μ'.l := by
  obtain ⟨ν, rfl, hν⟩ := x.pre
  intro hm
  rcases List.mem_append.mp hm with q | q
  · exact hb q
  · rcases (hν _ q).2 with q | q
    · rw [q] at e; cases e
    · exact hO q
theorem not_l {a : Addr} {μ : Mu} (h : a ∉ μ) : a ∉ μ.l := fun q => h (.inl q)
theorem Ext.trans {O : Addr → Prop} {h₁ μ₁ h₂ μ₂ h₃ μ₃} (x : Ext O h₁ μ₁ h₂ μ₂) (y : Ext O h₂ μ₂ h₃ μ₃) : Ext O h₁ μ₁ h₃ μ₃ := by
  refine ⟨fun b o e hb hn => y.keep b o (x.keep b o e hb hn) (x.notInL e hb hn) hn, ?_⟩
  obtain ⟨ν, e1, h1⟩ := x.pre
  obtain ⟨ν', e2, h2⟩ := y.pre
  refine ⟨ν ++ ν', by rw [e2, e1]; simp [Mu.add], fun a ha => ?_⟩
  rcases List.mem_append.mp ha with q | q
  · exact h1 a q
  · obtain ⟨h3, h4⟩ := h2 a q
    have h5 : a ∉ μ₁ := fun m => h3 (by
      rw [e1]
      rcases m with m | m
      · exact .inl (List.mem_append_left _ m)
      · exact .inr m)
    refine ⟨h5, ?_⟩
    rcases h4 with h4 | h4
    · cases e : h₁.get? a with
      | none => exact .inl rfl
      | some o =>
        refine .inr (Classical.byContradiction fun hn => ?_)
        have := x.keep a o e (not_l h5) hn
        rw [h4] at this; cases this
    · exact .inr h4
theorem Ext.idx {O : Addr → Prop} {h : Heap} {μ : Mu} {h' : Heap} {μ' : Mu} (x : Ext O h μ h' μ') {k : Nat} {a : Addr} (e : μ.l[k]? = some a) : μ'.l[k]? = some a := by
  obtain ⟨ν, rfl, _⟩ := x.pre
  show (μ.l ++ ν)[k]? = _
  rw [List.getElem?_append_left (by have := List.getElem?_eq_some_iff.mp e; exact this.1)]; exact e
/-- weaker: the lists that are being built may change too -/
structure ExtW (O : Addr → Prop) (h : Heap) (μ : Mu) (h' : Heap) (μ' : Mu) : Prop where
  keep : ∀ b o, h.get? b = some o → b ∉ μ → ¬ O b → h'.get? b = some o
  pre : ∃ ν, μ' = μ.add ν ∧ ∀ a ∈ ν, a ∉ μ ∧ (h.get? a = none ∨ O a)
theorem Ext.toW {O O' : Addr → Prop} {h μ h' μ'} (x : Ext O h μ h' μ') (hO : ∀ a, O a → O' a ∨ a ∈ μ) : ExtW O' h μ h' μ' :=
  ⟨fun b o e hb hn => x.keep b o e (not_l hb) fun q => (hO b q).elim hn hb, let ⟨ν, e, h⟩ := x.pre; ⟨ν, e, fun a ha => ⟨(h a ha).1, (h a ha).2.elim .inl fun q => (hO a q).elim .inr fun m => absurd m (h a ha).1⟩⟩⟩
theorem Ext.w {O : Addr → Prop} {h μ h' μ'} (x : Ext O h μ h' μ') : ExtW O h μ h' μ' := x.toW fun _ q => .inl q
theorem ExtW.notIn {O : Addr → Prop} {h μ h' μ'} (x : ExtW O h μ h' μ') {b : Addr} {o : Obj} (e : h.get? b = some o) (hb : b ∉ μ) (hO : ¬ O b) : b ∉ μ' := by
  obtain ⟨ν, rfl, hν⟩ := x.pre
  intro hm
  rcases hm with hm | hm
  · rcases List.mem_append.mp hm with q | q
    · exact hb (.inl q)
    · rcases (hν _ q).2 with q | q
      · rw [q] at e; cases e
      · exact hO q
  · exact hb (.inr hm)
theorem ExtW.idx {O : Addr → Prop} {h : Heap} {μ : Mu} {h' : Heap} {μ' : Mu} (x : ExtW O h μ h' μ') {k : Nat} {a : Addr} (e : μ.l[k]? = some a) : μ'.l[k]? = some a := by
  obtain ⟨ν, rfl, _⟩ := x.pre
  show (μ.l ++ ν)[k]? = _
  rw [List.getElem?_append_left (by have := List.getElem?_eq_some_iff.mp e; exact this.1)]; exact e
mutual
theorem Rep.extW {O : Addr → Prop} {h μ h' μ'} (hO : NoSeq O h) (x : ExtW O h μ h' μ') : ∀ {v d}, Rep h μ v d → Rep h' μ' v d
  | _, _, .none => .none
  | _, _, .bool b => .bool b
  | _, _, .int i t => .int i t
  | _, _, .str i t => .str i t
  | _, _, .tup ht hm r => by
    obtain ⟨n, ho⟩ := ht
    exact .tup ⟨n, x.keep _ _ ho hm fun q => hO _ _ q ho _ _ rfl⟩ (x.notIn ho hm fun q => hO _ _ q ho _ _ (by first | rfl | exact hd)) (r.extW hO x)
  | _, _, .lst ht hm r => by
    obtain ⟨n, ho⟩ := ht
    exact .lst ⟨n, x.keep _ _ ho hm fun q => hO _ _ q ho _ _ rfl⟩ (x.notIn ho hm fun q => hO _ _ q ho _ _ (by first | rfl | exact hd)) (r.extW hO x)
  | _, _, .scr ht hm r => by
    obtain ⟨o, ho, hc, n, hd⟩ := ht
    exact .scr ⟨o, x.keep _ _ ho hm fun q => hO _ _ q ho _ _ hd, hc, n, hd⟩ (x.notIn ho hm fun q => hO _ _ q ho _ _ (by first | rfl | exact hd)) (r.extW hO x)
  | _, _, .ref e => .ref (x.idx e)
theorem RepL.extW {O : Addr → Prop} {h μ h' μ'} (hO : NoSeq O h) (x : ExtW O h μ h' μ') : ∀ {vs ds}, RepL h μ vs ds → RepL h' μ' vs ds
  | _, _, .nil => .nil
  | _, _, .cons a r => .cons (a.extW hO x) (r.extW hO x)
end
theorem Rep.ext {O : Addr → Prop} {h μ h' μ'} (hO : NoSeq O h) (x : Ext O h μ h' μ') {v d} (r : Rep h μ v d) : Rep h' μ' v d := r.extW hO x.w
theorem RepL.ext {O : Addr → Prop} {h μ h' μ'} (hO : NoSeq O h) (x : Ext O h μ h' μ') {vs ds} (r : RepL h μ vs ds) : RepL h' μ' vs ds := r.extW hO x.w
theorem RepL.length {h μ} : ∀ {vs ds}, RepL h μ vs ds → vs.length = ds.length
  | _, _, .nil => rfl
  | _, _, .cons _ r => by simp [r.length]
theorem RepL.get {h μ} : ∀ {vs : List Value} {ds : List D}, RepL h μ vs ds → ∀ {i : Nat} {d : D}, ds[i]? = some d → ∃ v, vs[i]? = some v ∧ Rep h μ v d
  | _, _, .nil, i, d, e => by simp at e
  | _, _, .cons a r, 0, d, e => by simp at e; subst e; exact ⟨_, rfl, a⟩
  | _, _, .cons a r, i + 1, d, e => by simpa using r.get (i := i) (by simpa using e)
theorem RepL.append {h μ} : ∀ {vs ds ws es}, RepL h μ vs ds → RepL h μ ws es → RepL h μ (vs ++ ws) (ds ++ es)
  | _, _, _, _, .nil, k => k
  | _, _, _, _, .cons a r, k => .cons a (r.append k)
theorem RepL.snoc {h μ vs ds v d} (r : RepL h μ vs ds) (a : Rep h μ v d) : RepL h μ (vs ++ [v]) (ds ++ [d]) := r.append (.cons a .nil)
theorem RepL.set {h μ} : ∀ {vs ds}, RepL h μ vs ds → ∀ (i : Nat) {v d}, Rep h μ v d → RepL h μ (vs.set i v) (ds.set i d)
  | _, _, .nil, i, _, _, _ => .nil
  | _, _, .cons a r, 0, _, _, b => .cons b r
  | _, _, .cons a r, i + 1, _, _, b => .cons a (r.set i b)
theorem RepL.rev {h μ} : ∀ {vs ds}, RepL h μ vs ds → RepL h μ vs.reverse ds.reverse
  | _, _, .nil => .nil
  | _, _, .cons a r => by simpa using r.rev.snoc a
theorem RepL.take {h μ} : ∀ {vs ds}, RepL h μ vs ds → ∀ n, RepL h μ (vs.take n) (ds.take n)
  | _, _, .nil, n => by simp; exact .nil
  | _, _, .cons a r, 0 => .nil
  | _, _, .cons a r, n + 1 => .cons a (r.take n)
theorem RepL.drop {h μ} : ∀ {vs ds}, RepL h μ vs ds → ∀ n, RepL h μ (vs.drop n) (ds.drop n)
  | _, _, .nil, n => by simp; exact .nil
  | _, _, .cons a r, 0 => .cons a r
  | _, _, .cons a r, n + 1 => r.drop n
theorem RepL.replicate {h μ v d} (a : Rep h μ v d) : ∀ n, RepL h μ (List.replicate n v) (List.replicate n d)
  | 0 => .nil
  | n + 1 => .cons a (RepL.replicate a n)
structure St (h₀ h : Heap) (μ : Mu) (σ : Sto) : Prop where
  base : ∀ b o, h₀.get? b = some o → h.get? b = some o
  len : μ.l.length = σ.length
  nd : μ.l.Nodup
  lo : ∀ a ∈ μ, h₀.get? a = none
  at_ : ∀ (k : Nat) (a : Addr), μ.l[k]? = some a → ∃ l vs, σ[k]? = some l ∧ h.PlainList a vs.toArray ∧ RepL h μ vs l
  res : ∀ a ∈ μ.r, ∃ o xs n, h.get? a = some o ∧ o.data = .seq xs n
  sep : ∀ a ∈ μ.r, a ∉ μ.l
theorem St.isList {h₀ h μ σ} (S : St h₀ h μ σ) {a} (ha : a ∈ μ) : ∃ o xs n, h.get? a = some o ∧ o.data = .seq xs n := by
  rcases ha with ha | ha
  · obtain ⟨k, e⟩ := List.mem_iff_getElem?.mp ha
    obtain ⟨l, vs, _, ⟨n, ho⟩, _⟩ := S.at_ k a e
    exact ⟨_, _, n, ho, rfl⟩
  · exact S.res a ha
theorem St.notIn {h₀ h μ σ} (S : St h₀ h μ σ) {a o} (e : h.get? a = some o) (hd : ∀ xs n, o.data ≠ .seq xs n) : a ∉ μ := fun ha => by
  obtain ⟨o', xs, n, e', hd'⟩ := S.isList ha
  rw [e] at e'; cases e'; exact hd _ _ hd'
theorem fresh_size (h : Heap) : h.get? h.objs.size = none := by
  cases e : h.get? h.objs.size with
  | none => rfl
  | some o => exact absurd (Heap.lt_size e) (Nat.lt_irrefl _)
theorem St.fresh {h₀ h μ σ} (S : St h₀ h μ σ) {a} (ha : h.get? a = none) : a ∉ μ := fun hm => by
  obtain ⟨o, _, _, e, _⟩ := S.isList hm; rw [ha] at e; cases e
theorem St.base_none {h₀ h μ σ} (S : St h₀ h μ σ) {a} (ha : h.get? a = none) : h₀.get? a = none := by
  cases e : h₀.get? a with
  | none => rfl
  | some o => rw [S.base a o e] at ha; cases ha
/-- a change that keeps all lists of μ -/
theorem St.grow {O : Addr → Prop} {h₀ h h' μ σ} (S : St h₀ h μ σ) (hO : NoSeq O h) (hlo : ∀ a, O a → h₀.get? a = none) (x : Ext O h μ h' μ) (hm : ∀ a ∈ μ, h'.get? a = h.get? a) : St h₀ h' μ σ := by
  refine ⟨fun b o e => ?_, S.len, S.nd, S.lo, fun k a e => ?_, fun a ha => ?_, S.sep⟩
  · exact x.keep b o (S.base b o e) (fun hm' => by rw [S.lo _ (.inl hm')] at e; cases e) fun q => by rw [hlo _ q] at e; cases e
  · obtain ⟨l, vs, hl, ⟨n, ho⟩, r⟩ := S.at_ k a e
    exact ⟨l, vs, hl, ⟨n, (hm a (.inl (List.mem_of_getElem? e))).trans ho⟩, r.ext hO x⟩
  · obtain ⟨o, xs, n, e, hd⟩ := S.res a ha
    exact ⟨o, xs, n, (hm a (.inr ha)).trans e, hd⟩
theorem add_nil (μ : Mu) : μ = μ.add [] := by simp [Mu.add]
theorem Ext.push {O : Addr → Prop} (h : Heap) (μ : Mu) (o : Obj) : Ext O h μ (h.push o) μ :=
  ⟨fun b o' e _ _ => Heap.get?_push_of_some o e, [], add_nil μ, by simp⟩
theorem St.push {h₀ h μ σ} (S : St h₀ h μ σ) (o : Obj) : St h₀ (h.push o) μ σ :=
  S.grow (O := No) (NoSeq.no _) (fun _ f => f.elim) (Ext.push h μ o) fun a ha => by
    obtain ⟨o', _, _, e, _⟩ := S.isList ha
    rw [e, Heap.get?_push_of_some o e]
/-- a fresh list becomes one of the store -/
theorem St.adopt {h₀ h h' : Heap} {μ : Mu} {σ : Sto} {a : Addr} {vs : List Value} {l : List D} {k : Nat} (S : St h₀ h μ σ) (ha : h.get? a = none) (hk : ∀ b o, h.get? b = some o → h'.get? b = some o)
    (hD : h'.get? a = some { cls := .type "list", data := .seq vs.toArray k }) (r : RepL h μ vs l) : St h₀ h' (μ.add [a]) (σ ++ [l]) ∧ Ext No h μ h' (μ.add [a]) := by
  have X : Ext No h μ h' (μ.add [a]) := ⟨fun b o e _ _ => hk b o e, [a], rfl, fun b hb => by simp at hb; subst hb; exact ⟨S.fresh ha, .inl ha⟩⟩
  have hn : a ∉ μ := S.fresh ha
  refine ⟨⟨fun b o e => hk _ _ (S.base b o e), by simp [S.len, Mu.add], ?_, ?_, ?_, ?_, ?_⟩, X⟩
  · show (μ.l ++ [a]).Nodup
    rw [List.nodup_append]
    exact ⟨S.nd, by simp, fun b hb c hc q => by simp at hc; subst hc; subst q; exact hn (.inl hb)⟩
  · intro b hb
    rcases hb with hb | hb
    · rcases List.mem_append.mp hb with q | q
      · exact S.lo b (.inl q)
      · simp at q; subst q; exact S.base_none ha
    · exact S.lo b (.inr hb)
  · intro j b e
    have e : (μ.l ++ [a])[j]? = some b := e
    by_cases hj : j < μ.l.length
    · rw [List.getElem?_append_left hj] at e
      obtain ⟨l', vs', hl', ⟨n', ho'⟩, r'⟩ := S.at_ j b e
      exact ⟨l', vs', by rw [List.getElem?_append_left (by rw [← S.len]; exact hj)]; exact hl', ⟨n', hk _ _ ho'⟩, r'.ext (NoSeq.no _) X⟩
    · rw [List.getElem?_append_right (by omega)] at e
      have hj0 : j - μ.l.length = 0 := by
        have := (List.getElem?_eq_some_iff.mp e).1; simp at this; omega
      rw [hj0] at e
      simp only [List.getElem?_cons_zero, Option.some.injEq] at e
      subst e
      refine ⟨l, vs, ?_, ⟨k, hD⟩, r.ext (NoSeq.no _) X⟩
      rw [List.getElem?_append_right (by rw [← S.len]; omega), ← S.len, hj0]; rfl
  · intro b hb
    obtain ⟨o, xs, n, e, hd⟩ := S.res b hb
    exact ⟨o, xs, n, hk _ _ e, hd⟩
  · intro b hb hm
    rcases List.mem_append.mp hm with q | q
    · exact S.sep b hb q
    · simp at q; subst q; exact hn (.inr hb)
/-- a new mutable list -/
theorem St.newRef {h₀ h μ σ vs l} (S : St h₀ h μ σ) (r : RepL h μ vs l) {o : Obj} {n : Nat} (hd : o = { cls := .type "list", data := .seq vs.toArray n }) :
    St h₀ (h.push o) (μ.add [h.objs.size]) (σ ++ [l]) ∧ Ext No h μ (h.push o) (μ.add [h.objs.size]) :=
  S.adopt (fresh_size h) (fun _ _ e => Heap.get?_push_of_some o e) (by subst hd; exact Heap.get?_push_size _ rfl) r
/-- a list of the store is changed -/
theorem St.upd {h₀ h h' : Heap} {μ : Mu} {σ : Sto} {k : Nat} {a : Addr} {vs : List Value} {l : List D} (S : St h₀ h μ σ) (e : μ.l[k]? = some a) (hs : Heap.SameBut a h h') (hl : h'.PlainList a vs.toArray) (r : RepL h μ vs l) :
    St h₀ h' μ (σ.set k l) ∧ Ext No h μ h' μ := by
  have ha : a ∈ μ.l := List.mem_of_getElem? e
  have X : Ext No h μ h' μ := ⟨fun b o eb hb _ => (hs.2 b fun q => hb (q ▸ ha)).trans eb, [], add_nil μ, by simp⟩
  refine ⟨⟨fun b o eb => ?_, by simp [S.len], S.nd, S.lo, fun j b ej => ?_, fun b hb => ?_, S.sep⟩, X⟩
  · refine (hs.2 b fun q => ?_).trans (S.base b o eb)
    subst q; rw [S.lo _ (.inl ha)] at eb; cases eb
  · by_cases hjk : j = k
    · subst hjk
      rw [e] at ej; cases ej
      have hk : j < σ.length := by rw [← S.len]; exact (List.getElem?_eq_some_iff.mp e).1
      exact ⟨l, vs, by rw [List.getElem?_set_self hk], hl, r.ext (NoSeq.no _) X⟩
    · obtain ⟨l', vs', hl', ⟨n', ho'⟩, r'⟩ := S.at_ j b ej
      have hba : b ≠ a := fun q => by
        subst q
        exact hjk (nodup_idx S.nd ej e)
      exact ⟨l', vs', by rw [List.getElem?_set_ne (fun q => hjk q.symm)]; exact hl', ⟨n', (hs.2 b hba).trans ho'⟩, r'.ext (NoSeq.no _) X⟩
  · obtain ⟨o, xs, n, eo, hd⟩ := S.res b hb
    exact ⟨o, xs, n, (hs.2 b fun q => S.sep b hb (q ▸ ha)).trans eo, hd⟩
/-- the frame -/
structure Sh where
  ns : List Str
  gs : List Str
  ls : List Str
  cw : List Str
  cs : List Str
noncomputable def Sh.ws (sh : Sh) : List Str := sh.ls ++ sh.cw
noncomputable def Own (sh : Sh) (env : Env) (a : Addr) : Prop := a = env.locals ∨ ∃ x, x ∈ sh.ws ∧ env.cells.lookup x = some a
structure Fm (h₀ : Heap) (sh : Sh) (env : Env) (h : Heap) (μ : Mu) (Γ : Gam) : Prop where
  lo : ∀ a, Own sh env a → h₀.get? a = none
  kind : env.scope.kind = .function
  glob : env.globals = mainGlobals
  bi : env.builtins = builtinsNs
  gs : ∀ x ∈ sh.gs, env.kindOf x = some .globalImplicit
  nd : sh.ns.Nodup
  ls : ∀ x ∈ sh.ls, env.kindOf x = some .local
  cw : ∀ x ∈ sh.cw, env.kindOf x = some .cell ∧ ∃ c, env.cells.lookup x = some c
  cs : ∀ x ∈ sh.cs, (env.kindOf x = some .cell ∨ env.kindOf x = some .free) ∧ ∃ c, env.cells.lookup x = some c
  cel : ∀ x c, env.cells.lookup x = some c → ∃ ov, h.IsCell c ov
  apart : ∀ x y c, env.cells.lookup x = some c → env.cells.lookup y = some c → x = y
  var : ∃ m, h.Ns env.locals m ∧ ∀ (i : Nat) x d, sh.ns[i]? = some x → Γ[i]? = some (some d) → ∃ v, Rep h μ v d ∧
    ((env.kindOf x = some .local ∧ m x = some v) ∨ ((env.kindOf x = some .cell ∨ env.kindOf x = some .free) ∧ ∃ c, env.cells.lookup x = some c ∧ h.IsCell c (some v)))
theorem Fm.dc {h₀ sh env h μ Γ} (F : Fm h₀ sh env h μ Γ) : DC (Own sh env) h := by
  rintro a o (rfl | ⟨x, _, hx⟩) e
  · obtain ⟨m, ⟨o', es, ep, ho', hd, _⟩, _⟩ := F.var
    rw [e] at ho'; cases ho'; exact .inl ⟨_, _, hd⟩
  · obtain ⟨ov, o', ho', hd⟩ := F.cel x a hx
    rw [e] at ho'; cases ho'; exact .inr ⟨_, hd⟩
theorem Fm.locIn {sh env h μ Γ h₀ σ} (F : Fm h₀ sh env h μ Γ) (S : St h₀ h μ σ) : ∃ o es n, h.get? env.locals = some o ∧ o.data = .dict es n ∧ env.locals ∉ μ := by
  obtain ⟨m, ⟨o', es, ep, ho', hd, _⟩, _⟩ := F.var
  exact ⟨o', es, ep, ho', hd, S.notIn ho' fun xs n q => by rw [hd] at q; cases q⟩
theorem Fm.extW {O : Addr → Prop} {sh env h h' μ μ' Γ h₀ σ} (F : Fm h₀ sh env h μ Γ) (S : St h₀ h μ σ) (hO : Flds O h) (x : ExtW O h μ h' μ') : Fm h₀ sh env h' μ' Γ := by
  have kd : ∀ a o, h.get? a = some o → (∃ es n, o.data = .dict es n) ∨ (∃ v, o.data = .cell v) → h'.get? a = some o := fun a o e hd =>
    x.keep a o e (S.notIn e fun xs n q => by rcases hd with ⟨_, _, hd⟩ | ⟨_, hd⟩ <;> (rw [hd] at q; cases q)) fun q => by
      obtain ⟨vs, hv⟩ := hO a o q e
      rcases hd with ⟨_, _, hd⟩ | ⟨_, hd⟩ <;> (rw [hd] at hv; cases hv)
  have kc : ∀ c ov, h.IsCell c ov → h'.IsCell c ov := fun c ov ⟨o, e, hd⟩ => ⟨o, kd c o e (.inr ⟨_, hd⟩), hd⟩
  refine ⟨F.lo, F.kind, F.glob, F.bi, F.gs, F.nd, F.ls, F.cw, F.cs, fun y c e => ?_, F.apart, ?_⟩
  · obtain ⟨ov, q⟩ := F.cel y c e; exact ⟨ov, kc _ _ q⟩
  · obtain ⟨m, ⟨o, es, ep, ho, hd, r⟩, hv⟩ := F.var
    refine ⟨m, ⟨o, es, ep, kd _ _ ho (.inl ⟨_, _, hd⟩), hd, r⟩, fun i y d e1 e2 => ?_⟩
    obtain ⟨v, hr, hk⟩ := hv i y d e1 e2
    refine ⟨v, hr.extW hO.noSeq x, ?_⟩
    rcases hk with q | ⟨q, c, hc, hcv⟩
    · exact .inl q
    · exact .inr ⟨q, c, hc, kc _ _ hcv⟩
theorem Fm.ext {O : Addr → Prop} {sh env h h' μ μ' Γ h₀ σ} (F : Fm h₀ sh env h μ Γ) (S : St h₀ h μ σ) (hO : Flds O h) (x : Ext O h μ h' μ') : Fm h₀ sh env h' μ' Γ := F.extW S hO x.w
/-- what a store into slot i leaves -/
theorem Fm.stored {sh : Sh} {env : Env} {h h' : Heap} {μ : Mu} {Γ : Gam} {h₀ : Heap} {σ : Sto} {i : Nat} {x : Str} {v : Value} {d : D} (F : Fm h₀ sh env h μ Γ) (S : St h₀ h μ σ) (hi : sh.ns[i]? = some x) (r : Rep h μ v d)
    (hk : env.kindOf x = some .local) {m} (hm : h.Ns env.locals m) (hn : h'.Ns env.locals (fun y => if y = x then some v else m y)) (hs : Heap.SameBut env.locals h h') :
    Fm h₀ sh env h' μ (Γ.set i (some d)) ∧ St h₀ h' μ σ ∧ Ext (Own sh env) h μ h' μ := by
  have X : Ext (fun a => a = env.locals) h μ h' μ := ⟨fun b o eb hb hO => (hs.2 b hO).trans eb, [], add_nil μ, by simp⟩
  have hO : NoSeq (fun a => a = env.locals) h := fun a o ha e => by
    cases ha
    obtain ⟨o', es, ep, ho', hd, _⟩ := hm
    rw [e] at ho'; cases ho'; intro xs n q; rw [hd] at q; cases q
  have hne : env.locals ∉ μ := by
    obtain ⟨o', es, ep, ho', hd, _⟩ := hm
    exact S.notIn ho' fun xs n q => by rw [hd] at q; cases q
  have S' : St h₀ h' μ σ := S.grow hO (fun a ha => by cases ha; exact F.lo _ (.inl rfl)) X fun a ha => hs.2 a fun q => hne (q ▸ ha)
  refine ⟨⟨F.lo, F.kind, F.glob, F.bi, F.gs, F.nd, F.ls, F.cw, F.cs, fun y c e => ?_, F.apart, ?_⟩, S', X.mono fun a ha => .inl ha⟩
  · obtain ⟨ov, o, ho, hd⟩ := F.cel y c e
    refine ⟨ov, o, (hs.2 c fun q => ?_).trans ho, hd⟩
    subst q
    obtain ⟨o', es, ep, ho', hd', _⟩ := hm
    rw [ho] at ho'; cases ho'; rw [hd] at hd'; cases hd'
  · refine ⟨_, hn, fun j y e e1 e2 => ?_⟩
    by_cases hij : j = i
    · subst hij
      rw [hi] at e1; cases e1
      have : j < Γ.length := by
        have := (List.getElem?_eq_some_iff.mp e2).1; simpa using this
      rw [List.getElem?_set_self this] at e2; cases e2
      exact ⟨v, r.ext hO X, .inl ⟨hk, by simp⟩⟩
    · rw [List.getElem?_set_ne (fun q => hij q.symm)] at e2
      have hyx : y ≠ x := fun q => by
        subst q
        exact hij (nodup_idx F.nd e1 hi)
      obtain ⟨m', hm', hv⟩ := F.var
      obtain ⟨v', hr, hkk⟩ := hv j y e e1 e2
      refine ⟨v', hr.ext hO X, ?_⟩
      rcases hkk with ⟨q1, q2⟩ | ⟨q, c, hc, o, ho, hd⟩
      · refine .inl ⟨q1, ?_⟩
        rw [if_neg hyx]
        obtain ⟨o1, es1, ep1, ho1, hd1, _, hf1⟩ := hm
        obtain ⟨o2, es2, ep2, ho2, hd2, _, hf2⟩ := hm'
        rw [ho1] at ho2; cases ho2; rw [hd1] at hd2; cases hd2
        rw [← hf1, hf2]; exact q2
      · refine .inr ⟨q, c, hc, o, (hs.2 c fun q => ?_).trans ho, hd⟩
        subst q
        obtain ⟨o', es, ep, ho', hd', _⟩ := hm
        rw [ho] at ho'; cases ho'; rw [hd] at hd'; cases hd'
theorem Fm.storedC {sh : Sh} {env : Env} {h h' : Heap} {μ : Mu} {Γ : Gam} {h₀ : Heap} {σ : Sto} {i : Nat} {x : Str} {v : Value} {d : D} {c : Addr} (F : Fm h₀ sh env h μ Γ) (S : St h₀ h μ σ) (hi : sh.ns[i]? = some x) (r : Rep h μ v d) (hx : x ∈ sh.ws)
    (hk : env.kindOf x = some .cell) (hc : env.cells.lookup x = some c) (hn : h'.IsCell c (some v)) (hs : Heap.SameBut c h h') :
    Fm h₀ sh env h' μ (Γ.set i (some d)) ∧ St h₀ h' μ σ ∧ Ext (Own sh env) h μ h' μ := by
  obtain ⟨ov, oc, hoc, hdc⟩ := F.cel x c hc
  have X : Ext (fun a => a = c) h μ h' μ := ⟨fun b o eb hb hO => (hs.2 b hO).trans eb, [], add_nil μ, by simp⟩
  have hO : NoSeq (fun a => a = c) h := fun a o ha e => by
    cases ha
    rw [e] at hoc; cases hoc; intro xs n q; rw [hdc] at q; cases q
  have hne : c ∉ μ := S.notIn hoc fun xs n q => by rw [hdc] at q; cases q
  have S' : St h₀ h' μ σ := S.grow hO (fun a ha => by cases ha; exact F.lo _ (.inr ⟨x, hx, hc⟩)) X fun a ha => hs.2 a fun q => hne (q ▸ ha)
  obtain ⟨m, ⟨o, es, ep, ho, hd, hr⟩, hv⟩ := F.var
  have hLc : env.locals ≠ c := fun q => by rw [q, hoc] at ho; cases ho; rw [hdc] at hd; cases hd
  refine ⟨⟨F.lo, F.kind, F.glob, F.bi, F.gs, F.nd, F.ls, F.cw, F.cs, fun y c' e => ?_, F.apart, m, ⟨o, es, ep, (hs.2 _ hLc).trans ho, hd, hr⟩, fun j y e e1 e2 => ?_⟩, S', X.mono fun a ha => .inr ⟨x, hx, by rw [ha]; exact hc⟩⟩
  · by_cases hcc : c' = c
    · subst hcc; exact ⟨_, hn⟩
    · obtain ⟨ov', o', ho', hd'⟩ := F.cel y c' e
      exact ⟨ov', o', (hs.2 c' hcc).trans ho', hd'⟩
  · by_cases hij : j = i
    · subst hij
      rw [hi] at e1; cases e1
      have : j < Γ.length := by
        have := (List.getElem?_eq_some_iff.mp e2).1; simpa using this
      rw [List.getElem?_set_self this] at e2; cases e2
      exact ⟨v, r.ext hO X, .inr ⟨.inl hk, c, hc, hn⟩⟩
    · rw [List.getElem?_set_ne (fun q => hij q.symm)] at e2
      have hyx : y ≠ x := fun q => by
        subst q
        exact hij (nodup_idx F.nd e1 hi)
      obtain ⟨v', hr', hkk⟩ := hv j y e e1 e2
      refine ⟨v', hr'.ext hO X, ?_⟩
      rcases hkk with q | ⟨q, c', hc', o', ho', hd'⟩
      · exact .inl q
      · refine .inr ⟨q, c', hc', o', (hs.2 c' fun q => ?_).trans ho', hd'⟩
        subst q
        exact hyx (F.apart _ _ _ hc' hc)
end Mine
-- F2
namespace Mine
open PySem PySem.W PyProof.Rows
noncomputable def Room (n : Nat) (A : Around) : Prop := A.handled = none ∧ A.depth + n < 1000 ∧ A.units + 3 * n + 200 < 9900
theorem Room.mono {n m : Nat} {A : Around} (h : Room m A) (hn : n ≤ m) : Room n A := ⟨h.1, by have := h.2.1; omega, by have := h.2.2; omega⟩
theorem cLine_eq : cLine = 9900 := rfl
theorem rec_eq : recursionLimit = 1000 := rfl
theorem szl : sizeLine = 16777216 := rfl
structure Wd (h₀ : Heap) (mg mb : Str → Option Value) : Prop where
  g : h₀.Ns mainGlobals mg
  b : h₀.Ns builtinsNs mb
  lim : h₀.NoLimit
  b_abs : mg (Str.ofString "abs") = none ∧ mb (Str.ofString "abs") = some (.builtin "abs")
  b_len : mg (Str.ofString "len") = none ∧ mb (Str.ofString "len") = some (.builtin "len")
  b_sum : mg (Str.ofString "sum") = none ∧ mb (Str.ofString "sum") = some (.builtin "sum")
  b_range : mg (Str.ofString "range") = none ∧ mb (Str.ofString "range") = some (.type "range")
  b_enum : mg (Str.ofString "enumerate") = none ∧ mb (Str.ofString "enumerate") = some (.type "enumerate")
  b_list : mg (Str.ofString "list") = none ∧ mb (Str.ofString "list") = some (.type "list")
  b_int : mg (Str.ofString "int") = none ∧ mb (Str.ofString "int") = some (.type "int")
  r0 : ∃ a t u, mg (Str.ofString "R0") = some (.ref a) ∧ PlainT h₀ a #[.int 0 t, .int 1 u]
  r1 : ∃ a t u, mg (Str.ofString "R1") = some (.ref a) ∧ PlainT h₀ a #[.int 1 t, .int 1 u]
inductive PostE (h₀ : Heap) (s : Shared) (μ : Mu) (σ' : Sto) (d : D) (v : Value) (s' : Shared) : Prop
  | mk (h' : Heap) (tk' : Nat) (μ' : Mu) (e : s' = { s with heap := h', toks := tk' }) (x : Ext No s.heap μ h' μ') (S : St h₀ h' μ' σ') (r : Rep h' μ' v d) : PostE h₀ s μ σ' d v s'
inductive PostL (h₀ : Heap) (s : Shared) (μ : Mu) (σ' : Sto) (ds : List D) (vs : List Value) (s' : Shared) : Prop
  | mk (h' : Heap) (tk' : Nat) (μ' : Mu) (e : s' = { s with heap := h', toks := tk' }) (x : Ext No s.heap μ h' μ') (S : St h₀ h' μ' σ') (r : RepL h' μ' vs ds) : PostL h₀ s μ σ' ds vs s'
inductive PostQ (h₀ : Heap) (s : Shared) (μ : Mu) (σ' : Sto) (b : Bool) (c : Bool) (s' : Shared) : Prop
  | mk (h' : Heap) (tk' : Nat) (μ' : Mu) (e : s' = { s with heap := h', toks := tk' }) (x : Ext No s.heap μ h' μ') (S : St h₀ h' μ' σ') (r : c = b) : PostQ h₀ s μ σ' b c s'
section post
variable {h₀ : Heap} {s : Shared} {μ : Mu} {σ σ' : Sto}
theorem PostE.here {d v} (S : St h₀ s.heap μ σ) (r : Rep s.heap μ v d) {tk : Nat} : PostE h₀ s μ σ d v { s with toks := tk } := ⟨s.heap, tk, μ, rfl, Ext.refl .., S, r⟩
theorem PostE.here0 {d v} (S : St h₀ s.heap μ σ) (r : Rep s.heap μ v d) : PostE h₀ s μ σ d v s := ⟨s.heap, s.toks, μ, rfl, Ext.refl .., S, r⟩
theorem PostE.lift {h₁ tk₁ μ₁ d v s'} (x : Ext No s.heap μ h₁ μ₁) (p : PostE h₀ { s with heap := h₁, toks := tk₁ } μ₁ σ' d v s') : PostE h₀ s μ σ' d v s' := by
  obtain ⟨h', tk', μ', rfl, e, S, r⟩ := p
  exact ⟨h', tk', μ', rfl, x.trans e, S, r⟩
theorem PostL.lift {h₁ tk₁ μ₁ d v s'} (x : Ext No s.heap μ h₁ μ₁) (p : PostL h₀ { s with heap := h₁, toks := tk₁ } μ₁ σ' d v s') : PostL h₀ s μ σ' d v s' := by
  obtain ⟨h', tk', μ', rfl, e, S, r⟩ := p
  exact ⟨h', tk', μ', rfl, x.trans e, S, r⟩
theorem PostQ.lift {h₁ tk₁ μ₁ d v s'} (x : Ext No s.heap μ h₁ μ₁) (p : PostQ h₀ { s with heap := h₁, toks := tk₁ } μ₁ σ' d v s') : PostQ h₀ s μ σ' d v s' := by
  obtain ⟨h', tk', μ', rfl, e, S, r⟩ := p
  exact ⟨h', tk', μ', rfl, x.trans e, S, r⟩
theorem PostE.tup {vs ds} (S : St h₀ s.heap μ σ) (r : RepL s.heap μ vs ds) {tk : Nat} :
    PostE h₀ s μ σ (.tup ds) (.ref s.heap.objs.size) { s with heap := s.heap.push { cls := .type "tuple", data := .seq vs.toArray }, toks := tk } :=
  ⟨_, tk, μ, rfl, Ext.push .., S.push _, .tup ⟨0, Heap.get?_push_size _ rfl⟩ (S.fresh (fresh_size _)) (r.ext (NoSeq.no _) (Ext.push ..))⟩
theorem PostE.lst {vs ds} {a : Array Value} (S : St h₀ s.heap μ σ) (r : RepL s.heap μ vs ds) (ha : a = vs.toArray) {tk : Nat} {n : Nat} :
    PostE h₀ s μ σ (.lst ds) (.ref s.heap.objs.size) { s with heap := s.heap.push { cls := .type "list", data := .seq a n }, toks := tk } := by
  subst ha
  exact ⟨_, tk, μ, rfl, Ext.push .., S.push _, .lst ⟨n, Heap.get?_push_size _ rfl⟩ (S.fresh (fresh_size _)) (r.ext (NoSeq.no _) (Ext.push ..))⟩
theorem PostE.ref {vs ds} {a : Array Value} (S : St h₀ s.heap μ σ) (r : RepL s.heap μ vs ds) (ha : a = vs.toArray) {tk : Nat} {n : Nat} :
    PostE h₀ s μ (σ ++ [ds]) (.ref σ.length) (.ref s.heap.objs.size) { s with heap := s.heap.push { cls := .type "list", data := .seq a n }, toks := tk } := by
  subst ha
  obtain ⟨S', X⟩ := S.newRef r (o := { cls := .type "list", data := .seq vs.toArray n }) rfl
  refine ⟨_, tk, _, rfl, X, S', .ref ?_⟩
  show (μ.l ++ [s.heap.objs.size])[σ.length]? = _
  rw [List.getElem?_append_right (by rw [S.len]; exact Nat.le_refl _), S.len]; simp
/-- a list that the model made somewhere fresh, everything else kept -/
theorem St.keeps {h' : Heap} (S : St h₀ s.heap μ σ) (hk : ∀ b o, s.heap.get? b = some o → h'.get? b = some o) :
    St h₀ h' μ σ ∧ Ext No s.heap μ h' μ := by
  have X : Ext No s.heap μ h' μ := ⟨fun b o e _ _ => hk b o e, [], add_nil μ, by simp⟩
  exact ⟨S.grow (NoSeq.no _) (fun _ f => f.elim) X fun a ha => by
    obtain ⟨o', _, _, e, _⟩ := S.isList ha
    rw [e, hk _ _ e], X⟩
end post
section
variable (prog : Program) (w : World) (h₀ : Heap)
noncomputable def Snd (n : Nat) (sh : Sh) (e : Expr) (c : Cmd) : Prop :=
  ∀ A env s μ Γ σ d σ' E, Room n A → St h₀ s.heap μ σ → Fm h₀ sh env s.heap μ Γ → c Γ σ = some (d, σ') →
    wpAny (model prog w) A (eval e env) (PostE h₀ s μ σ' d) E s
noncomputable abbrev LCmd := Gam → Sto → Option (List D × Sto)
noncomputable abbrev QCmd := Gam → Sto → Option (Bool × Sto)
noncomputable def SndL (n : Nat) (sh : Sh) (es : List Expr) (c : LCmd) : Prop :=
  ∀ A env s μ Γ σ ds σ' E pos, Room n A → St h₀ s.heap μ σ → Fm h₀ sh env s.heap μ Γ → c Γ σ = some (ds, σ') →
    wpAny (model prog w) A (spliced (backTo pos (starEach es env))) (PostL h₀ s μ σ' ds) E s
noncomputable def SndQ (n : Nat) (sh : Sh) (e : Expr) (c : QCmd) : Prop :=
  ∀ A env s μ Γ σ b σ' E, Room n A → St h₀ s.heap μ σ → Fm h₀ sh env s.heap μ Γ → c Γ σ = some (b, σ') →
    wpAny (model prog w) A (isTrue e env (eval e env)) (PostQ h₀ s μ σ' b) E s
/-- an operation on values -/
noncomputable abbrev Op2 := D → D → Sto → Option (D × Sto)
noncomputable abbrev Op1 := D → Sto → Option (D × Sto)
noncomputable def OpOk (n : Nat) (t : Value → Value → Sem Value) (f : Op2) : Prop :=
  ∀ A s μ σ v d v' d' r σ' E, Room n A → St h₀ s.heap μ σ → Rep s.heap μ v d → Rep s.heap μ v' d' → f d d' σ = some (r, σ') →
    wpAny (model prog w) A (t v v') (PostE h₀ s μ σ' r) E s
noncomputable def Op1Ok (n : Nat) (t : Value → Sem Value) (f : Op1) : Prop :=
  ∀ A s μ σ v d r σ' E, Room n A → St h₀ s.heap μ σ → Rep s.heap μ v d → f d σ = some (r, σ') →
    wpAny (model prog w) A (t v) (PostE h₀ s μ σ' r) E s
noncomputable def CallOk (mg : Str → Option Value) (n : Nat) (x : Str) (F : Fn) : Prop :=
  ∃ a o fd, mg x = some (.ref a) ∧ h₀.get? a = some o ∧ o.data = .func fd ∧ ∀ A s μ σ vs ds d σ', Room n A → St h₀ s.heap μ σ → RepL s.heap μ vs ds → F ds σ = some (d, σ') →
    codeAny (model prog w) A (.call (.ref a) ⟨vs, []⟩) (fun r s' => ∃ v, r = .ok (.ret v) ∧ PostE h₀ s μ σ' d v s') s
end
-- combinators
noncomputable def cVar (i : Nat) : Cmd := fun Γ σ => match Γ[i]? with | some (some d) => some (d, σ) | _ => none
noncomputable def cK (d : D) : Cmd := fun _ σ => some (d, σ)
noncomputable def c1 (f : Op1) (a : Cmd) : Cmd := fun Γ σ => (a Γ σ).bind fun p => f p.1 p.2
noncomputable def c2 (f : Op2) (a b : Cmd) : Cmd := fun Γ σ => (a Γ σ).bind fun p => (b Γ p.2).bind fun q => f p.1 q.1 q.2
noncomputable def cNil : LCmd := fun _ σ => some ([], σ)
noncomputable def cCons (a : Cmd) (b : LCmd) : LCmd := fun Γ σ => (a Γ σ).bind fun p => (b Γ p.2).bind fun q => some (p.1 :: q.1, q.2)
noncomputable def cTup (a : LCmd) : Cmd := fun Γ σ => (a Γ σ).bind fun p => if p.1.length ≤ 10000 then some (.tup p.1, p.2) else none
noncomputable def cLst (a : LCmd) : Cmd := fun Γ σ => (a Γ σ).bind fun p => if p.1.length ≤ 10000 then some (.lst p.1, p.2) else none
noncomputable def cRef (a : LCmd) : Cmd := fun Γ σ => (a Γ σ).bind fun p => if p.1.length ≤ 10000 then some (.ref p.2.length, p.2 ++ [p.1]) else none
noncomputable def cCall (F : Fn) (a : LCmd) : Cmd := fun Γ σ => (a Γ σ).bind fun p => F p.1 p.2
noncomputable def cIf (t : QCmd) (a b : Cmd) : Cmd := fun Γ σ => (t Γ σ).bind fun p => if p.1 then a Γ p.2 else b Γ p.2
noncomputable def qNot (t : QCmd) : QCmd := fun Γ σ => (t Γ σ).bind fun p => some (!p.1, p.2)
noncomputable def qAnd (t u : QCmd) : QCmd := fun Γ σ => (t Γ σ).bind fun p => if p.1 then u Γ p.2 else some (false, p.2)
noncomputable def qOr (t u : QCmd) : QCmd := fun Γ σ => (t Γ σ).bind fun p => if p.1 then some (true, p.2) else u Γ p.2
/-- a value's truth: bools alone -/
noncomputable def qVal (a : Cmd) : QCmd := fun Γ σ => (a Γ σ).bind fun p => match p.1 with | .bool b => some (b, p.2) | _ => none
noncomputable def cOr (a b : Cmd) : Cmd := fun Γ σ => (a Γ σ).bind fun p => match p.1 with | .bool true => some (.bool true, p.2) | .bool false => b Γ p.2 | _ => none
section
variable {prog : Program} {w : World} {h₀ : Heap} {n : Nat} {sh : Sh} {mg mb : Str → Option Value}
theorem Snd.go {e c A env s μ Γ σ d σ' E} (H : Snd prog w h₀ n sh e c) (hA : Room n A) (S : St h₀ s.heap μ σ) (F : Fm h₀ sh env s.heap μ Γ) (hc : c Γ σ = some (d, σ')) {Q : Value → Shared → Prop}
    (k : ∀ v h₁ tk₁ μ₁, Ext No s.heap μ h₁ μ₁ → St h₀ h₁ μ₁ σ' → Fm h₀ sh env h₁ μ₁ Γ → Rep h₁ μ₁ v d → Q v { s with heap := h₁, toks := tk₁ }) :
    wpAny (model prog w) A (eval e env) Q E s :=
  wpAny_mono (H A env s μ Γ σ d σ' E hA S F hc) (fun v s' ⟨h₁, tk₁, μ₁, e₁, x, S₁, r⟩ => e₁ ▸ k v h₁ tk₁ μ₁ x S₁ (F.ext S (Flds.no _) x) r) fun _ _ e => e
theorem SndL.go {es c A env s μ Γ σ d σ' E pos} (H : SndL prog w h₀ n sh es c) (hA : Room n A) (S : St h₀ s.heap μ σ) (F : Fm h₀ sh env s.heap μ Γ) (hc : c Γ σ = some (d, σ')) {Q : List Value → Shared → Prop}
    (k : ∀ v h₁ tk₁ μ₁, Ext No s.heap μ h₁ μ₁ → St h₀ h₁ μ₁ σ' → Fm h₀ sh env h₁ μ₁ Γ → RepL h₁ μ₁ v d → Q v { s with heap := h₁, toks := tk₁ }) :
    wpAny (model prog w) A (spliced (backTo pos (starEach es env))) Q E s :=
  wpAny_mono (H A env s μ Γ σ d σ' E pos hA S F hc) (fun v s' ⟨h₁, tk₁, μ₁, e₁, x, S₁, r⟩ => e₁ ▸ k v h₁ tk₁ μ₁ x S₁ (F.ext S (Flds.no _) x) r) fun _ _ e => e
theorem SndQ.go {e c A env s μ Γ σ d σ' E} (H : SndQ prog w h₀ n sh e c) (hA : Room n A) (S : St h₀ s.heap μ σ) (F : Fm h₀ sh env s.heap μ Γ) (hc : c Γ σ = some (d, σ')) {Q : Bool → Shared → Prop}
    (k : ∀ h₁ tk₁ μ₁, Ext No s.heap μ h₁ μ₁ → St h₀ h₁ μ₁ σ' → Fm h₀ sh env h₁ μ₁ Γ → Q d { s with heap := h₁, toks := tk₁ }) :
    wpAny (model prog w) A (isTrue e env (eval e env)) Q E s :=
  wpAny_mono (H A env s μ Γ σ d σ' E hA S F hc) (fun v s' ⟨h₁, tk₁, μ₁, e₁, x, S₁, r⟩ => e₁ ▸ r ▸ k h₁ tk₁ μ₁ x S₁ (F.ext S (Flds.no _) x)) fun _ _ e => e
theorem Snd.var {i : Nat} {x : Str} {pos : Pos} (hi : sh.ns[i]? = some x) (hd : (x == ("__debug__" : Str)) = false) (hd2 : (x == ("__classdict__" : Str)) = false) :
    Snd prog w h₀ n sh (.Name x pos) (cVar i) := by
  intro A env s μ Γ σ d σ' E hA S F hc
  unfold cVar at hc
  split at hc
  · rename_i d' hg
    cases hc
    obtain ⟨m, hm, hv⟩ := F.var
    obtain ⟨v, r, hk⟩ := hv i x d hi hg
    refine wpAny_Name ?_ hd
    rcases hk with ⟨hl, hmx⟩ | ⟨hl | hl, c, hcl, hcv⟩
    · exact wpAny_loadName_local F.kind hl hm hmx (PostE.here0 S r)
    · exact wpAny_loadName_cell F.kind hl hcl hcv (PostE.here0 S r)
    · exact wpAny_loadName_free F.kind hl hcl hcv (PostE.here0 S r) hd2
  · cases hc
theorem Snd.kInt {i : Int} {k pos} : Snd prog w h₀ n sh (.Constant (.int i) k pos) (cK (.int i)) := by
  intro A env s μ Γ σ d σ' E hA S F hc
  cases hc
  exact wpAny_Constant_int (PostE.here S (.int ..))
theorem Snd.kNone {k pos} : Snd prog w h₀ n sh (.Constant .none k pos) (cK .none) := by
  intro A env s μ Γ σ d σ' E hA S F hc
  cases hc
  exact wpAny_Constant_none (PostE.here0 S .none)
theorem Snd.kBool {b : Bool} {k pos} : Snd prog w h₀ n sh (.Constant (.bool b) k pos) (cK (.bool b)) := by
  intro A env s μ Γ σ d σ' E hA S F hc
  cases hc
  exact wpAny_Constant_bool (PostE.here0 S (.bool _))
theorem Snd.kStr {x : Str} {k pos} : Snd prog w h₀ n sh (.Constant (.str x) k pos) (cK (.str x)) := by
  intro A env s μ Γ σ d σ' E hA S F hc
  cases hc
  exact Calls.Constant_str (PostE.here S (.str ..))
theorem glob_ {A env s μ Γ σ E} {x : Str} {v : Value} {pos : Pos} {Q : Value → Shared → Prop} (W : Wd h₀ mg mb) (S : St h₀ s.heap μ σ) (F : Fm h₀ sh env s.heap μ Γ)
    (hx : x ∈ sh.gs) (hv : mg x = some v) (hd : (x == ("__debug__" : Str)) = false) (h : Q v s) : wpAny (model prog w) A (eval (.Name x pos) env) Q E s :=
  Calls.Name_function_global F.kind (F.gs x hx) (Calls.loadGlobal_global (env := env) (by rw [F.glob]; exact W.g.keeps S.base) hv h) hd
theorem bltn_ {A env s μ Γ σ E} {x : Str} {v : Value} {pos : Pos} {Q : Value → Shared → Prop} (W : Wd h₀ mg mb) (S : St h₀ s.heap μ σ) (F : Fm h₀ sh env s.heap μ Γ)
    (hx : x ∈ sh.gs) (hv : mg x = none ∧ mb x = some v) (hd : (x == ("__debug__" : Str)) = false) (h : Q v s) : wpAny (model prog w) A (eval (.Name x pos) env) Q E s :=
  Calls.Name_function_global F.kind (F.gs x hx) (Calls.loadGlobal_builtin (env := env) (by rw [F.glob]; exact W.g.keeps S.base) hv.1 (by rw [F.bi]; exact W.b.keeps S.base) hv.2 h) hd
theorem Snd.r0 {pos : Pos} (W : Wd h₀ mg mb) (hx : Str.ofString "R0" ∈ sh.gs) : Snd prog w h₀ n sh (.Name (Str.ofString "R0") pos) (cK (.tup [.int 0, .int 1])) := by
  intro A env s μ Γ σ d σ' E hA S F hc
  cases hc
  obtain ⟨a, t, u, hv, ht⟩ := W.r0
  refine glob_ W S F hx hv (by decide +kernel) (PostE.here0 S (.tup (vs := [.int 0 t, .int 1 u]) (let ⟨k, e⟩ := ht; ⟨k, S.base _ _ e⟩) ?_ (.cons (.int ..) (.cons (.int ..) .nil))))
  intro hm
  obtain ⟨k, e⟩ := ht
  rw [S.lo _ hm] at e; cases e
theorem Snd.r1 {pos : Pos} (W : Wd h₀ mg mb) (hx : Str.ofString "R1" ∈ sh.gs) : Snd prog w h₀ n sh (.Name (Str.ofString "R1") pos) (cK (.tup [.int 1, .int 1])) := by
  intro A env s μ Γ σ d σ' E hA S F hc
  cases hc
  obtain ⟨a, t, u, hv, ht⟩ := W.r1
  refine glob_ W S F hx hv (by decide +kernel) (PostE.here0 S (.tup (vs := [.int 1 t, .int 1 u]) (let ⟨k, e⟩ := ht; ⟨k, S.base _ _ e⟩) ?_ (.cons (.int ..) (.cons (.int ..) .nil))))
  intro hm
  obtain ⟨k, e⟩ := ht
  rw [S.lo _ hm] at e; cases e
theorem Snd.bin {l r : Expr} {op : Operator} {pos : Pos} {a b : Cmd} {f : Op2} (hf : OpOk prog w h₀ n (binaryOp op) f) (Hl : Snd prog w h₀ n sh l a) (Hr : Snd prog w h₀ n sh r b) :
    Snd prog w h₀ n sh (.BinOp l op r pos) (c2 f a b) := by
  intro A env s μ Γ σ d σ' E hA S F hc
  simp only [c2, Option.bind_eq_some_iff] at hc
  obtain ⟨⟨d₁, σ₁⟩, e₁, ⟨d₂, σ₂⟩, e₂, e₃⟩ := hc
  refine wpAny_BinOp (Hl.go hA S F e₁ fun v₁ h₁ tk₁ μ₁ x₁ S₁ F₁ r₁ => Hr.go hA S₁ F₁ e₂ fun v₂ h₂ tk₂ μ₂ x₂ S₂ F₂ r₂ => ?_)
  exact wpAny_mono (hf A _ μ₂ σ₂ v₁ d₁ v₂ d₂ d σ' E hA S₂ (r₁.ext (NoSeq.no _) x₂) r₂ e₃) (fun v s' p => PostE.lift (x₁.trans x₂) p) fun _ _ e => e
theorem Snd.cmp {l r : Expr} {op : CmpOp} {pos : Pos} {a b : Cmd} {f : Op2} (hf : OpOk prog w h₀ n (compareOp op) f) (hm : behindInMarks op r = false) (Hl : Snd prog w h₀ n sh l a) (Hr : Snd prog w h₀ n sh r b) :
    Snd prog w h₀ n sh (.Compare l [op] [r] pos) (c2 f a b) := by
  intro A env s μ Γ σ d σ' E hA S F hc
  simp only [c2, Option.bind_eq_some_iff] at hc
  obtain ⟨⟨d₁, σ₁⟩, e₁, ⟨d₂, σ₂⟩, e₂, e₃⟩ := hc
  refine wpAny_Compare1 (Hl.go hA S F e₁ fun v₁ h₁ tk₁ μ₁ x₁ S₁ F₁ r₁ => Hr.go hA S₁ F₁ e₂ fun v₂ h₂ tk₂ μ₂ x₂ S₂ F₂ r₂ => ?_) hm
  exact wpAny_mono (hf A _ μ₂ σ₂ v₁ d₁ v₂ d₂ d σ' E hA S₂ (r₁.ext (NoSeq.no _) x₂) r₂ e₃) (fun v s' p => PostE.lift (x₁.trans x₂) p) fun _ _ e => e
/-- a comparison as a test -/
theorem SndQ.cmp {l r : Expr} {op : CmpOp} {pos : Pos} {a b : Cmd} {f : Op2} (hf : OpOk prog w h₀ n (compareOp op) f) (hm : behindInMarks op r = false) (Hl : Snd prog w h₀ n sh l a) (Hr : Snd prog w h₀ n sh r b) :
    SndQ prog w h₀ n sh (.Compare l [op] [r] pos) (qVal (c2 f a b)) := by
  intro A env s μ Γ σ d σ' E hA S F hc
  simp only [qVal, c2, Option.bind_eq_some_iff] at hc
  obtain ⟨⟨d₃, σ₃⟩, ⟨⟨d₁, σ₁⟩, e₁, ⟨d₂, σ₂⟩, e₂, e₃⟩, e₄⟩ := hc
  dsimp only at e₃ e₄
  split at e₄
  · cases e₄
    refine wpAny_isTrue_Compare1 (Hl.go hA S F e₁ fun v₁ h₁ tk₁ μ₁ x₁ S₁ F₁ r₁ => Hr.go hA S₁ F₁ e₂ fun v₂ h₂ tk₂ μ₂ x₂ S₂ F₂ r₂ => ?_) hm
    refine wpAny_mono (hf A _ μ₂ σ₂ v₁ d₁ v₂ d₂ _ σ' E hA S₂ (r₁.ext (NoSeq.no _) x₂) r₂ e₃) (fun v s' p => ?_) fun _ _ e => e
    obtain ⟨h', tk', μ', rfl, x, S', r⟩ := p
    cases r
    exact wpAny_truthy_bool ⟨h', tk', μ', rfl, (x₁.trans x₂).trans x, S', rfl⟩
  · cases e₄
theorem SndQ.val {e : Expr} {a : Cmd} (he : ∀ env whole, isTrue e env whole = (do let v ← whole; standAt e.pos; holding [v] (truthy v))) (H : Snd prog w h₀ n sh e a) : SndQ prog w h₀ n sh e (qVal a) := by
  intro A env s μ Γ σ d σ' E hA S F hc
  simp only [qVal, Option.bind_eq_some_iff] at hc
  obtain ⟨⟨d₃, σ₃⟩, e₁, e₄⟩ := hc
  dsimp only at e₄
  split at e₄
  · cases e₄
    refine isTrue_plain (H.go hA S F e₁ fun v₁ h₁ tk₁ μ₁ x₁ S₁ F₁ r₁ => ?_) (he _ _)
    cases r₁
    exact wpAny_truthy_bool ⟨h₁, tk₁, μ₁, rfl, x₁, S₁, rfl⟩
  · cases e₄
theorem SndQ.not_ {e : Expr} {pos : Pos} {t : QCmd} (H : SndQ prog w h₀ n sh e t) : SndQ prog w h₀ n sh (.UnaryOp .Not e pos) (qNot t) := by
  intro A env s μ Γ σ d σ' E hA S F hc
  simp only [qNot, Option.bind_eq_some_iff] at hc
  obtain ⟨⟨b, σ₁⟩, e₁, e₂⟩ := hc
  cases e₂
  exact wpAny_isTrue_Not (H.go hA S F e₁ fun h₁ tk₁ μ₁ x₁ S₁ F₁ => ⟨h₁, tk₁, μ₁, rfl, x₁, S₁, rfl⟩)
theorem SndQ.and_ {e e' : Expr} {pos : Pos} {t u : QCmd} (H : SndQ prog w h₀ n sh e t) (H' : SndQ prog w h₀ n sh e' u) : SndQ prog w h₀ n sh (.BoolOp .And [e, e'] pos) (qAnd t u) := by
  intro A env s μ Γ σ d σ' E hA S F hc
  simp only [qAnd, Option.bind_eq_some_iff] at hc
  obtain ⟨⟨b, σ₁⟩, e₁, e₂⟩ := hc
  refine isTrue_and (H.go hA S F e₁ fun h₁ tk₁ μ₁ x₁ S₁ F₁ => ?_)
  cases b with
  | false => cases e₂; exact ⟨h₁, tk₁, μ₁, rfl, x₁, S₁, rfl⟩
  | true =>
    simp only [if_true] at e₂ ⊢
    refine isTrue_and (H'.go hA S₁ F₁ e₂ fun h₂ tk₂ μ₂ x₂ S₂ F₂ => ?_)
    cases d with
    | false => exact ⟨h₂, tk₂, μ₂, rfl, x₁.trans x₂, S₂, rfl⟩
    | true => exact isTrue_and_nil ⟨h₂, tk₂, μ₂, rfl, x₁.trans x₂, S₂, rfl⟩
theorem SndQ.or_ {e e' : Expr} {pos : Pos} {t u : QCmd} (H : SndQ prog w h₀ n sh e t) (H' : SndQ prog w h₀ n sh e' u) : SndQ prog w h₀ n sh (.BoolOp .Or [e, e'] pos) (qOr t u) := by
  intro A env s μ Γ σ d σ' E hA S F hc
  simp only [qOr, Option.bind_eq_some_iff] at hc
  obtain ⟨⟨b, σ₁⟩, e₁, e₂⟩ := hc
  refine isTrue_or (H.go hA S F e₁ fun h₁ tk₁ μ₁ x₁ S₁ F₁ => ?_)
  cases b with
  | true => cases e₂; exact ⟨h₁, tk₁, μ₁, rfl, x₁, S₁, rfl⟩
  | false =>
    simp only [Bool.false_eq_true, if_false] at e₂ ⊢
    refine isTrue_or (H'.go hA S₁ F₁ e₂ fun h₂ tk₂ μ₂ x₂ S₂ F₂ => ?_)
    cases d with
    | true => exact ⟨h₂, tk₂, μ₂, rfl, x₁.trans x₂, S₂, rfl⟩
    | false => exact isTrue_or_nil ⟨h₂, tk₂, μ₂, rfl, x₁.trans x₂, S₂, rfl⟩
theorem Snd.or_ {e e' : Expr} {pos : Pos} {a b : Cmd} (H : Snd prog w h₀ n sh e a) (H' : Snd prog w h₀ n sh e' b) : Snd prog w h₀ n sh (.BoolOp .Or [e, e'] pos) (cOr a b) := by
  intro A env s μ Γ σ d σ' E hA S F hc
  simp only [cOr, Option.bind_eq_some_iff] at hc
  obtain ⟨⟨d₁, σ₁⟩, e₁, e₂⟩ := hc
  show wpAny (model prog w) A (boolOp pos .Or [eval e env, eval e' env]) _ E s
  unfold boolOp
  refine wpAny_bind (H.go hA S F e₁ fun v₁ h₁ tk₁ μ₁ x₁ S₁ F₁ r₁ => wpAny_bind (wpAny_standAt (wpAny_bind (wpAny_holding ?_))))
  dsimp only at e₂
  split at e₂
  · cases e₂
    cases r₁
    exact wpAny_truthy_bool (wpAny_pure ⟨h₁, tk₁, μ₁, rfl, x₁, S₁, .bool _⟩)
  · cases r₁
    refine wpAny_truthy_bool ?_
    show wpAny (model prog w) A (eval e' env) _ E _
    exact H'.go hA S₁ F₁ e₂ fun v₂ h₂ tk₂ μ₂ x₂ S₂ F₂ r₂ => ⟨h₂, tk₂, μ₂, rfl, x₁.trans x₂, S₂, r₂⟩
  · cases e₂
theorem Snd.ifexp {t a b : Expr} {pos : Pos} {q : QCmd} {c d : Cmd} (Ht : SndQ prog w h₀ n sh t q) (Ha : Snd prog w h₀ n sh a c) (Hb : Snd prog w h₀ n sh b d) : Snd prog w h₀ n sh (.IfExp t a b pos) (cIf q c d) := by
  intro A env s μ Γ σ r σ' E hA S F hc
  simp only [cIf, Option.bind_eq_some_iff] at hc
  obtain ⟨⟨bb, σ₁⟩, e₁, e₂⟩ := hc
  refine wpAny_IfExp (Ht.go hA S F e₁ fun h₁ tk₁ μ₁ x₁ S₁ F₁ => ?_)
  cases bb with
  | true => exact Ha.go hA S₁ F₁ e₂ fun v₂ h₂ tk₂ μ₂ x₂ S₂ F₂ r₂ => ⟨h₂, tk₂, μ₂, rfl, x₁.trans x₂, S₂, r₂⟩
  | false => exact Hb.go hA S₁ F₁ e₂ fun v₂ h₂ tk₂ μ₂ x₂ S₂ F₂ r₂ => ⟨h₂, tk₂, μ₂, rfl, x₁.trans x₂, S₂, r₂⟩
theorem Snd.neg {e : Expr} {pos : Pos} {a : Cmd} {f : Op1} (hf : Op1Ok prog w h₀ n (unaryOp .USub) f) (H : Snd prog w h₀ n sh e a) : Snd prog w h₀ n sh (.UnaryOp .USub e pos) (c1 f a) := by
  intro A env s μ Γ σ d σ' E hA S F hc
  simp only [c1, Option.bind_eq_some_iff] at hc
  obtain ⟨⟨d₁, σ₁⟩, e₁, e₂⟩ := hc
  show wpAny (model prog w) A (eval e env >>= fun v => standAt pos >>= fun _ => holding [v] (unaryOp .USub v)) _ E s
  refine wpAny_bind (H.go hA S F e₁ fun v₁ h₁ tk₁ μ₁ x₁ S₁ F₁ r₁ => wpAny_bind (wpAny_standAt (wpAny_holding ?_)))
  exact wpAny_mono (hf A _ μ₁ σ₁ v₁ d₁ d σ' E hA S₁ r₁ e₂) (fun v s' p => PostE.lift x₁ p) fun _ _ e => e
theorem SndL.nil_ : SndL prog w h₀ n sh [] cNil := by
  intro A env s μ Γ σ d σ' E pos hA S F hc
  cases hc
  exact spliced_none ⟨s.heap, s.toks, μ, rfl, Ext.refl .., S, .nil⟩
theorem SndL.cons_ {e : Expr} {es : List Expr} {a : Cmd} {b : LCmd} (he : ∀ env, starEach (e :: es) env = (false, eval e env) :: starEach es env) (H : Snd prog w h₀ n sh e a) (HL : SndL prog w h₀ n sh es b) :
    SndL prog w h₀ n sh (e :: es) (cCons a b) := by
  intro A env s μ Γ σ d σ' E pos hA S F hc
  simp only [cCons, Option.bind_eq_some_iff] at hc
  obtain ⟨⟨d₁, σ₁⟩, e₁, ⟨d₂, σ₂⟩, e₂, e₃⟩ := hc
  cases e₃
  exact spliced_more (H.go hA S F e₁ fun v₁ h₁ tk₁ μ₁ x₁ S₁ F₁ r₁ => HL.go hA S₁ F₁ e₂ fun v₂ h₂ tk₂ μ₂ x₂ S₂ F₂ r₂ => ⟨h₂, tk₂, μ₂, rfl, x₁.trans x₂, S₂, .cons (r₁.ext (NoSeq.no _) x₂) r₂⟩) (he env)
theorem Snd.tup {es : List Expr} {k : Nat} {pos : Pos} {a : LCmd} (H : SndL prog w h₀ n sh es a) : Snd prog w h₀ n sh (.Tuple es k pos) (cTup a) := by
  intro A env s μ Γ σ d σ' E hA S F hc
  simp only [cTup, Option.bind_eq_some_iff] at hc
  obtain ⟨⟨d₁, σ₁⟩, e₁, e₂⟩ := hc
  dsimp only at e₂
  split at e₂
  · rename_i hl; cases e₂
    refine wpAny_Tuple_spliced (H.go hA S F e₁ fun v₁ h₁ tk₁ μ₁ x₁ S₁ F₁ r₁ => ⟨?_, ?_⟩)
    · rw [r₁.length, szl]; omega
    · exact PostE.lift x₁ (PostE.tup (s := { s with heap := h₁, toks := tk₁ }) S₁ r₁)
  · cases e₂
theorem Snd.lst {es : List Expr} {pos : Pos} {a : LCmd} (H : SndL prog w h₀ n sh es a) : Snd prog w h₀ n sh (.List es pos) (cLst a) := by
  intro A env s μ Γ σ d σ' E hA S F hc
  simp only [cLst, Option.bind_eq_some_iff] at hc
  obtain ⟨⟨d₁, σ₁⟩, e₁, e₂⟩ := hc
  dsimp only at e₂
  split at e₂
  · rename_i hl; cases e₂
    refine wpAny_List_spliced (H.go hA S F e₁ fun v₁ h₁ tk₁ μ₁ x₁ S₁ F₁ r₁ => ⟨?_, ?_⟩)
    · rw [r₁.length, szl]; omega
    · exact PostE.lift x₁ (PostE.lst (s := { s with heap := h₁, toks := tk₁ }) S₁ r₁ rfl)
  · cases e₂
theorem Snd.ref {es : List Expr} {pos : Pos} {a : LCmd} (H : SndL prog w h₀ n sh es a) : Snd prog w h₀ n sh (.List es pos) (cRef a) := by
  intro A env s μ Γ σ d σ' E hA S F hc
  simp only [cRef, Option.bind_eq_some_iff] at hc
  obtain ⟨⟨d₁, σ₁⟩, e₁, e₂⟩ := hc
  dsimp only at e₂
  split at e₂
  · rename_i hl; cases e₂
    refine wpAny_List_spliced (H.go hA S F e₁ fun v₁ h₁ tk₁ μ₁ x₁ S₁ F₁ r₁ => ⟨?_, ?_⟩)
    · rw [r₁.length, szl]; omega
    · exact PostE.lift x₁ (PostE.ref (s := { s with heap := h₁, toks := tk₁ }) S₁ r₁ rfl)
  · cases e₂
/-- the call of a def of the text -/
theorem Snd.ucall {x : Str} {F : Fn} {e : Expr} {es : List Expr} {p pos : Pos} {a : LCmd} (W : Wd h₀ mg mb) (hf : CallOk prog w h₀ mg n x F) (hx : x ∈ sh.gs) (hd : (x == ("__debug__" : Str)) = false)
    (he : ∀ env, starEach (e :: es) env = (false, eval e env) :: starEach es env) (H : SndL prog w h₀ n sh (e :: es) a) : Snd prog w h₀ n sh (.Call (.Name x p) (e :: es) [] pos) (cCall F a) := by
  intro A env s μ Γ σ d σ' E hA S F' hc
  simp only [cCall, Option.bind_eq_some_iff] at hc
  obtain ⟨⟨ds, σ₁⟩, e₁, e₂⟩ := hc
  obtain ⟨f, o, fd, hv, ho, hdt, hcall⟩ := hf
  refine wpAny_Call_NameR (glob_ W S F' hx hv hd ?_)
  refine Calls.callWith_function (o := o) (fd := fd) ?_
  have hh := H A env s μ Γ σ ds σ₁ E pos hA S F' e₁
  have eb : backTo pos (starEach (e :: es) env) = (false, eval e env) :: backTo pos (starEach es env) := by rw [he]; rfl
  rw [eb] at hh ⊢
  refine Calls.evalArgs_plain (wpAny_mono hh (fun vs s' hp => ?_) fun _ _ e => e)
  obtain ⟨h₁, tk₁, μ₁, rfl, x₁, S₁, r₁⟩ := hp
  refine ⟨⟨S₁.base _ _ ho, hdt⟩, wpAny_call (codeAny_mono (A := A) (hcall A { s with heap := h₁, toks := tk₁ } μ₁ σ₁ vs ds d σ' hA S₁ r₁ e₂) fun r s' hr => ?_)⟩
  obtain ⟨v, rfl, hp⟩ := hr
  exact PostE.lift x₁ hp
/-- the call of a built-in function of one argument -/
theorem Snd.bltn {x : Str} {id : String} {f : Op1} {e : Expr} {p pos : Pos} {a : Cmd} (W : Wd h₀ mg mb) (hb : mg x = none ∧ mb x = some (.builtin id)) (hx : x ∈ sh.gs) (hd : (x == ("__debug__" : Str)) = false)
    (hf : Op1Ok prog w h₀ n (fun v => call (.builtin id) [v]) f) (he : ∀ env, starEach [e] env = [(false, eval e env)]) (H : Snd prog w h₀ n sh e a) :
    Snd prog w h₀ n sh (.Call (.Name x p) [e] [] pos) (c1 f a) := by
  intro A env s μ Γ σ d σ' E hA S F hc
  simp only [c1, Option.bind_eq_some_iff] at hc
  obtain ⟨⟨d₁, σ₁⟩, e₁, e₂⟩ := hc
  refine wpAny_Call_NameR (bltn_ W S F hx hb hd ?_)
  have eb : backTo pos (starEach [e] env) = [(false, eval e env)] := by rw [he]; rfl
  rw [eb]
  refine Calls.callWith_builtin rfl (Calls.evalArgs_plain (Calls.spliced_cons (H.go hA S F e₁ fun v₁ h₁ tk₁ μ₁ x₁ S₁ F₁ r₁ => Calls.spliced_nil ?_)))
  exact wpAny_mono (hf A _ μ₁ σ₁ v₁ d₁ d σ' E hA S₁ r₁ e₂) (fun v s' p => PostE.lift x₁ p) fun _ _ e => e
theorem Snd.typ {x : Str} {T : String} {f : Op1} {e : Expr} {p pos : Pos} {a : Cmd} (W : Wd h₀ mg mb) (hb : mg x = none ∧ mb x = some (.type T)) (hx : x ∈ sh.gs) (hd : (x == ("__debug__" : Str)) = false)
    (hf : Op1Ok prog w h₀ n (fun v => call (.type T) [v]) f) (he : ∀ env, starEach [e] env = [(false, eval e env)]) (H : Snd prog w h₀ n sh e a) :
    Snd prog w h₀ n sh (.Call (.Name x p) [e] [] pos) (c1 f a) := by
  intro A env s μ Γ σ d σ' E hA S F hc
  simp only [c1, Option.bind_eq_some_iff] at hc
  obtain ⟨⟨d₁, σ₁⟩, e₁, e₂⟩ := hc
  refine wpAny_Call_NameR (bltn_ W S F hx hb hd ?_)
  have eb : backTo pos (starEach [e] env) = [(false, eval e env)] := by rw [he]; rfl
  rw [eb]
  refine PySem.callWith_type rfl (Calls.evalArgs_plain (Calls.spliced_cons (H.go hA S F e₁ fun v₁ h₁ tk₁ μ₁ x₁ S₁ F₁ r₁ => Calls.spliced_nil ?_)))
  exact wpAny_mono (hf A _ μ₁ σ₁ v₁ d₁ d σ' E hA S₁ r₁ e₂) (fun v s' p => PostE.lift x₁ p) fun _ _ e => e
end
end Mine
-- F3
namespace Mine
open PySem PySem.W PyProof.Rows
noncomputable def small (i : Int) : Bool := Nat.blt i.natAbs 4611686018427387904
noncomputable def addD : Op2 := fun x y σ => match x, y with
  | .int a, .int b => some (.int (a + b), σ)
  | .lst l, .lst m => if l.length + m.length ≤ 10000 then some (.lst (l ++ m), σ) else none
  | .lst l, .ref k => (σ[k]?).bind fun m => if l.length + m.length ≤ 10000 then some (.lst (l ++ m), σ) else none
  | _, _ => none
noncomputable def subD : Op2 := fun x y σ => match x, y with
  | .int a, .int b => some (.int (a - b), σ)
  | _, _ => none
noncomputable def mulD : Op2 := fun x y σ => match x, y with
  | .int a, .int b => if small a then some (.int (a * b), σ) else none
  | .lst [x], .int n => if n.natAbs ≤ 10000 then some (.ref σ.length, σ ++ [List.replicate n.toNat x]) else none
  | _, _ => none
noncomputable def divD : Op2 := fun x y σ => match x, y with
  | .int a, .int b => if b = 0 then none else if small b then some (.int (a.fdiv b), σ) else none
  | _, _ => none
noncomputable def modD : Op2 := fun x y σ => match x, y with
  | .int a, .int b => if b = 0 then none else some (.int (a.fmod b), σ)
  | _, _ => none
noncomputable def negD : Op1 := fun x σ => match x with | .int a => some (.int (-a), σ) | _ => none
noncomputable def absD : Op1 := fun x σ => match x with | .int a => some (.int (if a < 0 then -a else a), σ) | _ => none
noncomputable def intD : Op1 := fun x σ => match x with | .int a => some (.int a, σ) | _ => none
section
variable {prog : Program} {w : World} {h₀ : Heap} {n : Nat} {sh : Sh} {mg mb : Str → Option Value}
theorem small_lt {a : Int} (h : small a = true) : a.natAbs < 4611686018427387904 := by
  simp [small, Nat.blt] at h; omega
theorem bits_small {a : Int} (h : small a = true) : Builtin.Int.intBits a ≤ 64 := by
  have h' : a.natAbs < 4611686018427387904 := small_lt h
  unfold Builtin.Int.intBits
  by_cases h0 : a.natAbs = 0
  · simp [h0]; split <;> omega
  · have : a.natAbs.log2 < 62 := (Nat.log2_lt h0).mpr h'
    split <;> omega
theorem log_small {a : Int} (h : small a = true) : a.natAbs.log2 < 9000 := by
  have h' := small_lt h
  by_cases h0 : a.natAbs = 0
  · rw [h0]; decide +kernel
  · have : a.natAbs.log2 < 62 := (Nat.log2_lt h0).mpr h'
    omega
theorem add_ok : OpOk prog w h₀ n (binaryOp .Add) addD := by
  intro A s μ σ v d v' d' r σ' E hA S r₁ r₂ hf
  unfold addD at hf
  split at hf
  · cases hf; cases r₁; cases r₂
    exact add_int (PostE.here S (.int ..))
  · split at hf
    · rename_i hl; cases hf
      cases r₁ with | lst p₁ m₁ q₁ =>
      cases r₂ with | lst p₂ m₂ q₂ =>
      obtain ⟨k₁, e₁⟩ := p₁; obtain ⟨k₂, e₂⟩ := p₂
      exact P.add_list e₁ e₂ (PostE.lst (tk := s.toks) S (q₁.append q₂) (by simp)) (by rw [szl, List.size_toArray, List.size_toArray, q₁.length, q₂.length]; omega)
    · cases hf
  · simp only [Option.bind_eq_some_iff] at hf
    obtain ⟨m, em, hf⟩ := hf
    split at hf
    · rename_i hl; cases hf
      cases r₁ with | lst p₁ m₁ q₁ =>
      cases r₂ with | ref ek =>
      obtain ⟨l', vs', el, p₂, q₂⟩ := S.at_ _ _ ek
      rw [em] at el; cases el
      obtain ⟨k₁, e₁⟩ := p₁; obtain ⟨k₂, e₂⟩ := p₂
      exact P.add_list e₁ e₂ (PostE.lst (tk := s.toks) S (q₁.append q₂) (by simp)) (by rw [szl, List.size_toArray, List.size_toArray, q₁.length, q₂.length]; omega)
    · cases hf
  · cases hf
theorem sub_ok : OpOk prog w h₀ n (binaryOp .Sub) subD := by
  intro A s μ σ v d v' d' r σ' E hA S r₁ r₂ hf
  unfold subD at hf
  split at hf
  · cases hf; cases r₁; cases r₂
    exact sub_int (PostE.here S (.int ..))
  · cases hf
theorem foldl_rep (x : Value) : ∀ (k : Nat) (acc : Array Value), List.foldl (fun x1 x2 => x1 ++ x2) acc (List.replicate k #[x]) = acc ++ (List.replicate k x).toArray
  | 0, acc => by simp
  | k + 1, acc => by
    rw [List.replicate_succ, List.foldl_cons, foldl_rep x k, List.replicate_succ]
    apply Array.toList_inj.mp
    simp
theorem mul_ok : OpOk prog w h₀ n (binaryOp .Mult) mulD := by
  intro A s μ σ v d v' d' r σ' E hA S r₁ r₂ hf
  unfold mulD at hf
  split at hf
  · split at hf
    · rename_i hs; cases hf; cases r₁; cases r₂
      exact mul_int (PostE.here S (.int ..)) (.of_left (bits_small hs))
    · cases hf
  · split at hf
    · rename_i x k hk; cases hf
      cases r₁ with | lst p₁ m₁ q₁ =>
      cases r₂ with | int i t =>
      cases q₁ with | cons qx qn =>
      cases qn
      obtain ⟨k₁, e₁⟩ := p₁
      rename_i v₀
      have key := PostE.ref (σ := σ) (tk := s.toks) (n := 0) S (RepL.replicate qx k.toNat) (a := List.foldl (fun x1 x2 => x1 ++ x2) #[] (List.replicate (if (#[v₀] : Array Value).isEmpty = true then 0 else k.toNat) #[v₀])) (by
        rw [if_neg (by simp), foldl_rep]; simp)
      have hfit : Builtin.List.listFitsIndex k = true := by simp [Builtin.List.listFitsIndex]; omega
      refine wpAny_binaryOp_repeat_ref (T := "list") (U := "int") (by decide) ⟨_, e₁, rfl⟩ (fun s' => typeIs_int s' k t) noFill_list_mul F.fills_int_mul F.slot_int_rmul repeat_list F.slot_int_index.lookup
        (call_meets F.slot_int_rmul (typeIs_int s k t) F.entry_int_rmul (F.args_int_rmul_2 _ _) (int___rmul___int_list k t _ _ _)
          ⟨e₁, rfl, ⟨_, e₁, rfl⟩, call_meets F.slot_list_mul ⟨_, e₁, rfl⟩ F.entry_list_mul (F.args_list_mul_2 _ _)
            (AutoListH.list___mul___list_int_3 _ _ _ k t (by simp [hfit]) (by simp; omega) (by simp [Builtin.List.listTooLong, szl]; omega))
            ⟨e₁, ?_⟩⟩)
      exact key
    · cases hf
  · cases hf
theorem div_ok : OpOk prog w h₀ n (binaryOp .FloorDiv) divD := by
  intro A s μ σ v d v' d' r σ' E hA S r₁ r₂ hf
  unfold divD at hf
  split at hf
  · split at hf
    · cases hf
    · rename_i hb
      split at hf
      · rename_i hs; cases hf; cases r₁; cases r₂
        exact floordiv_int hb (PostE.here S (.int ..)) (.inl (PyProof.noPylong_of_log2 (log_small hs)))
      · cases hf
  · cases hf
theorem mod_ok : OpOk prog w h₀ n (binaryOp .Mod) modD := by
  intro A s μ σ v d v' d' r σ' E hA S r₁ r₂ hf
  unfold modD at hf
  split at hf
  · split at hf
    · cases hf
    · rename_i hb; cases hf; cases r₁; cases r₂
      exact mod_int' hb (PostE.here S (.int ..))
  · cases hf
theorem neg_ok : Op1Ok prog w h₀ n (unaryOp .USub) negD := by
  intro A s μ σ v d r σ' E hA S r₁ hf
  unfold negD at hf
  split at hf
  · cases hf; cases r₁; exact neg_int (PostE.here S (.int ..))
  · cases hf
theorem abs_ok : Op1Ok prog w h₀ n (fun v => call (.builtin "abs") [v]) absD := by
  intro A s μ σ v d r σ' E hA S r₁ hf
  unfold absD at hf
  split at hf
  · cases hf; cases r₁; exact call_abs_int fun u tk => PostE.here S (.int ..)
  · cases hf
theorem intc_ok : Op1Ok prog w h₀ n (fun v => call (.type "int") [v]) intD := by
  intro A s μ σ v d r σ' E hA S r₁ hf
  unfold intD at hf
  split at hf
  · cases hf; cases r₁; exact call_int_int (PostE.here0 S (.int ..))
  · cases hf
end
end Mine
-- F4
namespace Mine
open PySem PySem.W PyProof.Rows
noncomputable def okN (l : List D) : Bool := Nat.ble l.length 10000
theorem okN_le {l : List D} (h : okN l = true) : l.length ≤ 10000 := Nat.le_of_ble_eq_true h
noncomputable def intsOf : List D → Option (List Int)
  | [] => some []
  | .int i :: l => (intsOf l).map (i :: ·)
  | _ => none
noncomputable def lenD : Op1 := fun x σ => match x with
  | .lst l => if okN l then some (.int l.length, σ) else none
  | .tup l => if okN l then some (.int l.length, σ) else none
  | .ref k => (σ[k]?).bind fun l => if okN l then some (.int l.length, σ) else none
  | _ => none
noncomputable def sumOk : List Int → Int → Bool
  | [], _ => true
  | a :: l, acc => small a && (small (acc + a) && sumOk l (acc + a))
noncomputable def sumD : Op1 := fun x σ => match x with
  | .lst l => (intsOf l).bind fun ns => if sumOk ns 0 then some (.int ns.sum, σ) else none
  | _ => none
noncomputable def listV : Op1 := fun x σ => match x with
  | .lst l => if okN l then some (.lst l, σ) else none
  | _ => none
noncomputable def listM : Op1 := fun x σ => match x with
  | .lst l => if okN l then some (.ref σ.length, σ ++ [l]) else none
  | _ => none
noncomputable def isNoneD : Op2 := fun x y σ => match y with
  | .none => match x with
    | .none => some (.bool true, σ)
    | .int _ => some (.bool false, σ)
    | .lst _ => some (.bool false, σ)
    | .tup _ => some (.bool false, σ)
    | _ => none
  | _ => none
noncomputable def inD : Op2 := fun x c σ => match x, c with
  | .int i, .lst l => (intsOf l).map fun ns => (.bool (ns.any (· == i)), σ)
  | .int i, .tup l => (intsOf l).map fun ns => (.bool (ns.any (· == i)), σ)
  | _, _ => none
noncomputable def notInD : Op2 := fun x c σ => match x, c with
  | .int i, .lst l => (intsOf l).map fun ns => (.bool (!ns.any (· == i)), σ)
  | .int i, .tup l => (intsOf l).map fun ns => (.bool (!ns.any (· == i)), σ)
  | _, _ => none
noncomputable def ltD : Op2 := fun x y σ => match x, y with
  | .int a, .int b => some (.bool (decide (a < b)), σ)
  | _, _ => none
noncomputable def gtD : Op2 := fun x y σ => match x, y with
  | .int a, .int b => some (.bool (decide (a > b)), σ)
  | _, _ => none
mutual
noncomputable def dat : D → Dat
  | .none => .none
  | .int i => .int i
  | .tup l => .tuple (datL l)
  | .lst l => .list (datL l)
  | _ => .bytes #[]
noncomputable def datL : List D → List Dat
  | [] => []
  | d :: l => dat d :: datL l
end
mutual
noncomputable def eqB : D → D → Bool
  | .none, .none => true
  | .int a, .int b => a == b
  | .tup l, .tup m => eqBL l m
  | .lst l, .lst m => eqBL l m
  | _, _ => false
noncomputable def eqBL : List D → List D → Bool
  | [], [] => true
  | a :: l, b :: m => eqB a b && eqBL l m
  | _, _ => false
end
/-- nested at most n deep, ints, Nones, tuples and lists alone -/
noncomputable def okE : Nat → D → Bool
  | _, .none => true
  | _, .int _ => true
  | n + 1, .tup l => l.all (okE n)
  | n + 1, .lst l => l.all (okE n)
  | _, _ => false
noncomputable def eqD : Op2 := fun x y σ => match x, y with
  | .int a, .int b => some (.bool (a == b), σ)
  | .tup l, .tup m => if l.all (okE 8) && m.all (okE 8) then some (.bool (eqBL l m), σ) else none
  | .lst l, .lst m => if l.all (okE 8) && m.all (okE 8) then some (.bool (eqBL l m), σ) else none
  | _, _ => none
noncomputable def neD : Op2 := fun x y σ => match x, y with
  | .int a, .int b => some (.bool (a != b), σ)
  | .tup l, .tup m => if l.all (okE 8) && m.all (okE 8) then some (.bool (!eqBL l m), σ) else none
  | .lst l, .lst m => if l.all (okE 8) && m.all (okE 8) then some (.bool (!eqBL l m), σ) else none
  | _, _ => none
noncomputable def idxL (l : List D) (k : Int) (σ : Sto) : Option (D × Sto) := if decide (0 ≤ k) && small k then (l[k.toNat]?).map (·, σ) else none
noncomputable def idxD : Op2 := fun x i σ => match x, i with
  | .lst l, .int k => idxL l k σ
  | .tup l, .int k => idxL l k σ
  | .ref j, .int k => (σ[j]?).bind fun l => idxL l k σ
  | _, _ => none
/-- x[k:] -/
noncomputable def fromD : Op2 := fun x i σ => match x, i with
  | .lst l, .int k => if decide (0 ≤ k) && okN l then some (.lst (l.drop k.toNat), σ) else none
  | _, _ => none
/-- x[:k] -/
noncomputable def uptoD : Op2 := fun x i σ => match x, i with
  | .lst l, .int k => if decide (0 ≤ k) && okN l then some (.lst (l.take k.toNat), σ) else none
  | .scr l, .int k => if decide (0 ≤ k) && okN l then some (.lst (l.take k.toNat), σ) else none
  | _, _ => none
mutual
theorem okE_dat : ∀ (n : Nat) (d : D), okE n d = true → kqdOk n (dat d) = true
  | n, .none, _ => by cases n <;> rfl
  | n, .int _, _ => by cases n <;> rfl
  | 0, .tup l, h => by simp [okE] at h
  | 0, .lst l, h => by simp [okE] at h
  | n + 1, .tup l, h => by
    rw [dat, kqdOk, List.all_eq_true]; exact okE_datL n l (by simpa [okE] using h)
  | n + 1, .lst l, h => by
    rw [dat, kqdOk, List.all_eq_true]; exact okE_datL n l (by simpa [okE] using h)
  | n, .bool _, h => by cases n <;> simp [okE] at h
  | n, .str _, h => by cases n <;> simp [okE] at h
  | n, .ref _, h => by cases n <;> simp [okE] at h
  | n, .scr _, h => by cases n <;> simp [okE] at h
theorem okE_datL : ∀ (n : Nat) (l : List D), (∀ d ∈ l, okE n d = true) → ∀ e ∈ datL l, kqdOk n e = true
  | n, [], _, e, he => by simp [datL] at he
  | n, d :: l, h, e, he => by
    rw [datL, List.mem_cons] at he
    rcases he with rfl | he
    · exact okE_dat n d (h d (.head _))
    · exact okE_datL n l (fun x hx => h x (.tail _ hx)) e he
end
mutual
theorem eqB_dat : ∀ (n : Nat) (d e : D) (k : Nat), okE n d = true → okE k e = true → (eqB d e = true ↔ dat d = dat e)
  | n, .none, e, k, h1, h2 => by cases e <;> simp [eqB, dat] <;> (cases k <;> simp [okE] at h2)
  | n, .int a, e, k, h1, h2 => by cases e <;> simp [eqB, dat] <;> (cases k <;> simp [okE] at h2)
  | 0, .tup l, e, k, h1, h2 => by simp [okE] at h1
  | 0, .lst l, e, k, h1, h2 => by simp [okE] at h1
  | n + 1, .tup l, .tup m, 0, h1, h2 => by simp [okE] at h2
  | n + 1, .tup l, .tup m, k + 1, h1, h2 => by
    rw [eqB, dat, dat, Dat.tuple.injEq]
    exact eqBL_dat n l m k (by simpa [okE] using h1) (by simpa [okE] using h2)
  | n + 1, .lst l, .lst m, 0, h1, h2 => by simp [okE] at h2
  | n + 1, .lst l, .lst m, k + 1, h1, h2 => by
    rw [eqB, dat, dat, Dat.list.injEq]
    exact eqBL_dat n l m k (by simpa [okE] using h1) (by simpa [okE] using h2)
  | n + 1, .tup l, .none, k, h1, h2 => by simp [eqB, dat]
  | n + 1, .tup l, .int _, k, h1, h2 => by simp [eqB, dat]
  | n + 1, .tup l, .lst _, k, h1, h2 => by simp [eqB, dat]
  | n + 1, .tup l, .bool _, k, h1, h2 => by cases k <;> simp [okE] at h2
  | n + 1, .tup l, .str _, k, h1, h2 => by cases k <;> simp [okE] at h2
  | n + 1, .tup l, .ref _, k, h1, h2 => by cases k <;> simp [okE] at h2
  | n + 1, .tup l, .scr _, k, h1, h2 => by cases k <;> simp [okE] at h2
  | n + 1, .lst l, .none, k, h1, h2 => by simp [eqB, dat]
  | n + 1, .lst l, .int _, k, h1, h2 => by simp [eqB, dat]
  | n + 1, .lst l, .tup _, k, h1, h2 => by simp [eqB, dat]
  | n + 1, .lst l, .bool _, k, h1, h2 => by cases k <;> simp [okE] at h2
  | n + 1, .lst l, .str _, k, h1, h2 => by cases k <;> simp [okE] at h2
  | n + 1, .lst l, .ref _, k, h1, h2 => by cases k <;> simp [okE] at h2
  | n + 1, .lst l, .scr _, k, h1, h2 => by cases k <;> simp [okE] at h2
  | n, .bool _, e, k, h1, h2 => by cases n <;> simp [okE] at h1
  | n, .str _, e, k, h1, h2 => by cases n <;> simp [okE] at h1
  | n, .ref _, e, k, h1, h2 => by cases n <;> simp [okE] at h1
  | n, .scr _, e, k, h1, h2 => by cases n <;> simp [okE] at h1
theorem eqBL_dat : ∀ (n : Nat) (l m : List D) (k : Nat), (∀ d ∈ l, okE n d = true) → (∀ d ∈ m, okE k d = true) → (eqBL l m = true ↔ datL l = datL m)
  | n, [], [], k, _, _ => by simp [eqBL, datL]
  | n, [], b :: m, k, _, _ => by simp [eqBL, datL]
  | n, a :: l, [], k, _, _ => by simp [eqBL, datL]
  | n, a :: l, b :: m, k, h1, h2 => by
    rw [eqBL, datL, datL, Bool.and_eq_true, List.cons.injEq,
      eqB_dat n a b k (h1 a (.head _)) (h2 b (.head _)), eqBL_dat n l m k (fun x hx => h1 x (.tail _ hx)) (fun x hx => h2 x (.tail _ hx))]
end
mutual
theorem Rep.reads {h : Heap} {μ : Mu} : ∀ {v : Value} {d : D} (n : Nat), Rep h μ v d → okE n d = true → ∃ as, Reads h v (kqdP (dat d)) as
  | _, _, n, .none, _ => ⟨_, Reads.none⟩
  | _, _, n, .int i t, _ => ⟨_, Reads.int i t⟩
  | _, _, 0, .tup _ _ _, hk => by simp [okE] at hk
  | _, _, 0, .lst _ _ _, hk => by simp [okE] at hk
  | _, _, n + 1, .tup ⟨k, ho⟩ _ r, hk => by
    obtain ⟨as, q⟩ := RepL.reads n r (by simpa [okE] using hk)
    rw [dat, kqdP]
    exact ⟨as, Reads.tuple ho rfl rfl (by simpa using q)⟩
  | _, _, n + 1, .lst ⟨k, ho⟩ _ r, hk => by
    obtain ⟨as, q⟩ := RepL.reads n r (by simpa [okE] using hk)
    rw [dat, kqdP]
    exact ⟨_, Reads.list ho rfl rfl (by simpa using q)⟩
  | _, _, n, .bool _, hk => by cases n <;> simp [okE] at hk
  | _, _, n, .str _ _, hk => by cases n <;> simp [okE] at hk
  | _, _, n, .ref _, hk => by cases n <;> simp [okE] at hk
  | _, _, n, .scr _ _ _, hk => by cases n <;> simp [okE] at hk
theorem RepL.reads {h : Heap} {μ : Mu} : ∀ {vs : List Value} {ds : List D} (n : Nat), RepL h μ vs ds → (∀ d ∈ ds, okE n d = true) → ∃ as, ReadsAll h vs (kqdPs (datL ds)) as
  | _, _, n, .nil, _ => ⟨_, ReadsAll.nil⟩
  | _, _, n, .cons a r, hk => by
    obtain ⟨as, q⟩ := a.reads n (hk _ (.head _))
    obtain ⟨bs, p⟩ := r.reads n fun d hm => hk d (.tail _ hm)
    rw [datL, kqdPs]
    exact ⟨_, ReadsAll.cons q p⟩
end
theorem intsOf_rep {h : Heap} {μ : Mu} : ∀ {ds : List D} {vs : List Value} {ns : List Int}, intsOf ds = some ns → RepL h μ vs ds → ∃ xs : List (Int × Tok), vs = xs.map (fun p => Value.int p.1 p.2) ∧ xs.map (·.1) = ns := by
  intro ds
  induction ds with
  | nil => intro vs ns e r; cases r; cases e; exact ⟨[], rfl, rfl⟩
  | cons d l ih =>
    intro vs ns e r
    cases r with | cons p q =>
    cases d with
    | int i =>
      cases p with | int _ t =>
      obtain ⟨ms, em, rfl⟩ := Option.map_eq_some_iff.mp (show (intsOf l).map (i :: ·) = some ns from e)
      obtain ⟨xs, rfl, rfl⟩ := ih em q
      exact ⟨(i, t) :: xs, rfl, rfl⟩
    | _ => cases (show none = some ns from e)
theorem readsInts {h : Heap} : ∀ (xs : List (Int × Tok)), ∃ as, ReadsAll h (xs.map fun p => Value.int p.1 p.2) ((xs.map (·.1)).map PyData.int) as
  | [] => ⟨_, .nil⟩
  | p :: xs => let ⟨as, r⟩ := readsInts xs; ⟨_, .cons (.int _ _) r⟩
theorem any_ints (ns : List Int) (i : Int) : ((ns.map PyData.int).any fun y => PyData.eqv y (.int i)) = ns.any (· == i) := by
  induction ns with
  | nil => rfl
  | cons a l ih => simp only [List.map_cons, List.any_cons, ih]; rfl
theorem sum_ok_aux : ∀ (ns : List Int) (acc : Int), sumOk ns acc = true → ∀ j, j < ns.length → InLong (ns.getD j 0) ∧ InLong (acc + (ns.take (j + 1)).sum)
  | [], acc, h, j, hj => by simp at hj
  | a :: l, acc, h, j, hj => by
    simp only [sumOk, Bool.and_eq_true] at h
    have h1 := small_lt h.1
    have h2 := small_lt h.2.1
    cases j with
    | zero => simp [InLong]; omega
    | succ j =>
      have := sum_ok_aux l (acc + a) h.2.2 j (by simpa using hj)
      refine ⟨by simpa using this.1, ?_⟩
      have e : acc + ((a :: l).take (j + 1 + 1)).sum = acc + a + (l.take (j + 1)).sum := by simp; omega
      rw [e]; exact this.2
section
variable {prog : Program} {w : World} {h₀ : Heap} {n : Nat} {sh : Sh} {mg mb : Str → Option Value}
theorem len_ok : Op1Ok prog w h₀ n (fun v => call (.builtin "len") [v]) lenD := by
  intro A s μ σ v d r σ' E hA S r₁ hf
  unfold lenD at hf
  split at hf
  · split at hf
    · rename_i l hl; cases hf
      have := okN_le hl
      cases r₁ with | lst p m q =>
      refine PyProof.Rows.len_list p.isList (by rw [List.size_toArray, q.length]; omega) ?_
      rw [List.size_toArray, q.length]; exact PostE.here S (.int ..)
    · cases hf
  · split at hf
    · rename_i l hl; cases hf
      have := okN_le hl
      cases r₁ with | tup p m q =>
      obtain ⟨k, e⟩ := p
      refine PyProof.Rows.len_tuple ⟨_, e, rfl, _, rfl⟩ (by rw [List.size_toArray, q.length]; omega) ?_
      rw [List.size_toArray, q.length]; exact PostE.here S (.int ..)
    · cases hf
  · simp only [Option.bind_eq_some_iff] at hf
    obtain ⟨l, el, hf⟩ := hf
    split at hf
    · rename_i hl; cases hf
      have := okN_le hl
      cases r₁ with | ref ek =>
      obtain ⟨l', vs, el', p, q⟩ := S.at_ _ _ ek
      rw [el] at el'; cases el'
      refine PyProof.Rows.len_list p.isList (by rw [List.size_toArray, q.length]; omega) ?_
      rw [List.size_toArray, q.length]; exact PostE.here S (.int ..)
    · cases hf
  · cases hf
theorem sum_okk : Op1Ok prog w h₀ n (fun v => call (.builtin "sum") [v]) sumD := by
  intro A s μ σ v d r σ' E hA S r₁ hf
  unfold sumD at hf
  split at hf
  · simp only [Option.bind_eq_some_iff] at hf
    obtain ⟨ns, en, hf⟩ := hf
    split at hf
    · rename_i hs; cases hf
      cases r₁ with | lst p m q =>
      obtain ⟨xs, rfl, rfl⟩ := intsOf_rep en q
      have hp := p.isList
      have e1 : (xs.map fun p => Value.int p.1 p.2).toArray = intItems xs.toArray := by simp [intItems]
      rw [e1] at hp
      have hn : ∀ j, numAt xs.toArray j = (xs.map (·.1)).getD j 0 := fun j => by simp [numAt, List.getD]
      have hpre : ∀ j, preSum (numAt xs.toArray) j = ((xs.map (·.1)).take j).sum := fun j => by
        have : numAt xs.toArray = fun i => (xs.map (·.1)).getD i 0 := funext hn
        rw [this]; exact PyProof.Rows.preSum_getD _ _
      refine sum_intList hA.1 hp (fun j hj => ?_) fun h' tk t' hk => ?_
      · have := sum_ok_aux _ 0 hs j (by simpa using hj)
        rw [hn, hpre]; simpa using this
      · rw [hpre, List.take_of_length_le (by simp)]
        obtain ⟨S', X⟩ := S.keeps (s := s) hk
        exact ⟨h', tk, μ, rfl, X, S', .int ..⟩
    · cases hf
  · cases hf
end
end Mine
-- F5
namespace Mine
open PySem PySem.W PyProof.Rows
section
variable {prog : Program} {w : World} {h₀ : Heap} {n : Nat} {sh : Sh} {mg mb : Str → Option Value}
theorem listV_ok : Op1Ok prog w h₀ n (fun v => call (.type "list") [v]) listV := by
  intro A s μ σ v d r σ' E hA S r₁ hf
  unfold listV at hf
  split at hf
  · split at hf
    · rename_i l hl; cases hf
      have := okN_le hl
      cases r₁ with | lst p m q =>
      obtain ⟨k, e⟩ := p
      refine call_list_seq _ (.inl rfl) e rfl rfl (fun h' c' hk hD => ?_) (by rw [szl, List.size_toArray, q.length]; omega)
      obtain ⟨S', X⟩ := S.keeps (s := s) hk
      exact ⟨h', s.toks, μ, rfl, X, S', .lst ⟨c', hD⟩ (S.fresh (fresh_size _)) (q.ext (NoSeq.no _) X)⟩
    · cases hf
  · cases hf
theorem listM_ok : Op1Ok prog w h₀ n (fun v => call (.type "list") [v]) listM := by
  intro A s μ σ v d r σ' E hA S r₁ hf
  unfold listM at hf
  split at hf
  · split at hf
    · rename_i l hl; cases hf
      have := okN_le hl
      cases r₁ with | lst p m q =>
      obtain ⟨k, e⟩ := p
      refine call_list_seq _ (.inl rfl) e rfl rfl (fun h' c' hk hD => ?_) (by rw [szl, List.size_toArray, q.length]; omega)
      obtain ⟨S', X⟩ := S.adopt (fresh_size _) hk hD q
      refine ⟨h', s.toks, _, rfl, X, S', .ref ?_⟩
      show (μ.l ++ [s.heap.objs.size])[σ.length]? = _
      rw [List.getElem?_append_right (by rw [S.len]; exact Nat.le_refl _), S.len]; simp
    · cases hf
  · cases hf
theorem isNone_ok : OpOk prog w h₀ n (compareOp .Is) isNoneD := by
  intro A s μ σ v d v' d' r σ' E hA S r₁ r₂ hf
  unfold isNoneD at hf
  split at hf
  · cases r₂
    split at hf <;> first | cases hf | skip
    · cases r₁; exact is_none (PostE.here0 S (.bool _))
    · cases r₁; exact is_none (PostE.here0 S (.bool _))
    · cases r₁; exact is_none (PostE.here0 S (.bool _))
    · cases r₁; exact is_none (PostE.here0 S (.bool _))
  · cases hf
theorem in_ok : OpOk prog w h₀ n (compareOp .In) inD := by
  intro A s μ σ v d v' d' r σ' E hA S r₁ r₂ hf
  have hu := hA.2.2
  unfold inD at hf
  split at hf
  · simp only [Option.map_eq_some_iff] at hf
    obtain ⟨ns, en, hf⟩ := hf; cases hf
    cases r₁
    cases r₂ with | lst p m q =>
    obtain ⟨k, e⟩ := p
    obtain ⟨xs, rfl, rfl⟩ := intsOf_rep en q
    obtain ⟨as, ra⟩ := readsInts (h := s.heap) xs
    refine SeqAt.in_list_reads (Reads.list e rfl rfl ra) (.int _ _) (ke_canLayAll0 _) rfl (by rw [ke_depthAll, cLine_eq]; have := Nat.min_le_left 0 (PyData.int (by assumption)).depth; omega) ?_
    rw [any_ints]; exact PostE.here0 S (.bool _)
  · simp only [Option.map_eq_some_iff] at hf
    obtain ⟨ns, en, hf⟩ := hf; cases hf
    cases r₁
    cases r₂ with | tup p m q =>
    obtain ⟨k, e⟩ := p
    obtain ⟨xs, rfl, rfl⟩ := intsOf_rep en q
    obtain ⟨as, ra⟩ := readsInts (h := s.heap) xs
    refine SeqAt.in_tuple_reads (Reads.tuple e rfl rfl ra) (.int _ _) (ke_canLayAll0 _) rfl (by rw [ke_depthAll, cLine_eq]; have := Nat.min_le_left 0 (PyData.int (by assumption)).depth; omega) ?_
    rw [any_ints]; exact PostE.here0 S (.bool _)
  · cases hf
theorem notIn_ok : OpOk prog w h₀ n (compareOp .NotIn) notInD := by
  intro A s μ σ v d v' d' r σ' E hA S r₁ r₂ hf
  have hu := hA.2.2
  unfold notInD at hf
  split at hf
  · simp only [Option.map_eq_some_iff] at hf
    obtain ⟨ns, en, hf⟩ := hf; cases hf
    cases r₁
    cases r₂ with | lst p m q =>
    obtain ⟨k, e⟩ := p
    obtain ⟨xs, rfl, rfl⟩ := intsOf_rep en q
    obtain ⟨as, ra⟩ := readsInts (h := s.heap) xs
    refine SeqAt.notIn_list_reads (Reads.list e rfl rfl ra) (.int _ _) (ke_canLayAll0 _) rfl (by rw [ke_depthAll, cLine_eq]; have := Nat.min_le_left 0 (PyData.int (by assumption)).depth; omega) ?_
    rw [any_ints]; exact PostE.here0 S (.bool _)
  · simp only [Option.map_eq_some_iff] at hf
    obtain ⟨ns, en, hf⟩ := hf; cases hf
    cases r₁
    cases r₂ with | tup p m q =>
    obtain ⟨k, e⟩ := p
    obtain ⟨xs, rfl, rfl⟩ := intsOf_rep en q
    obtain ⟨as, ra⟩ := readsInts (h := s.heap) xs
    refine SeqAt.notIn_tuple_reads (Reads.tuple e rfl rfl ra) (.int _ _) (ke_canLayAll0 _) rfl (by rw [ke_depthAll, cLine_eq]; have := Nat.min_le_left 0 (PyData.int (by assumption)).depth; omega) ?_
    rw [any_ints]; exact PostE.here0 S (.bool _)
  · cases hf
theorem lt_ok : OpOk prog w h₀ n (compareOp .Lt) ltD := by
  intro A s μ σ v d v' d' r σ' E hA S r₁ r₂ hf
  unfold ltD at hf
  split at hf
  · cases hf; cases r₁; cases r₂; exact lt_int (PostE.here0 S (.bool _))
  · cases hf
theorem gt_ok : OpOk prog w h₀ n (compareOp .Gt) gtD := by
  intro A s μ σ v d v' d' r σ' E hA S r₁ r₂ hf
  unfold gtD at hf
  split at hf
  · cases hf; cases r₁; cases r₂; exact gt_int (PostE.here0 S (.bool _))
  · cases hf
theorem eqv_eqB {d e : D} (h1 : okE 9 d = true) (h2 : okE 9 e = true) : PyData.eqv (kqdP (dat d)) (kqdP (dat e)) = eqB d e := by
  rw [Bool.eq_iff_iff, kqd_eqv 9 _ _ 9 (okE_dat 9 d h1) (okE_dat 9 e h2), ← eqB_dat 9 d e 9 h1 h2]
theorem shaped_ok {d : D} (h : okE 9 d = true) : SeqAt.shaped (kqdP (dat d)) = true := by
  have la := kqd_lay 9 _ (okE_dat 9 d h)
  unfold SeqAt.shaped; rw [la.1, Bool.true_and]; exact decide_eq_true (Nat.le_trans la.2 (by decide))
theorem eq_gen {A s μ σ v v' E} {d e : D} (hA : Room n A) (S : St h₀ s.heap μ σ) (r₁ : Rep s.heap μ v d) (r₂ : Rep s.heap μ v' e) (h1 : okE 9 d = true) (h2 : okE 9 e = true) :
    wpAny (model prog w) A (compareOp .Eq v v') (PostE h₀ s μ σ (.bool (eqB d e))) E s := by
  obtain ⟨as, ra⟩ := r₁.reads 9 h1
  obtain ⟨bs, rb⟩ := r₂.reads 9 h2
  refine eq_dataH ra rb (shaped_ok h1) (shaped_ok h2) (by have := hA.2.2; rw [cLine_eq]; omega) ?_
  rw [eqv_eqB h1 h2]; exact PostE.here0 S (.bool _)
theorem ne_gen {A s μ σ v v' E} {d e : D} (hA : Room n A) (S : St h₀ s.heap μ σ) (r₁ : Rep s.heap μ v d) (r₂ : Rep s.heap μ v' e) (h1 : okE 9 d = true) (h2 : okE 9 e = true) :
    wpAny (model prog w) A (compareOp .NotEq v v') (PostE h₀ s μ σ (.bool (!eqB d e))) E s := by
  obtain ⟨as, ra⟩ := r₁.reads 9 h1
  obtain ⟨bs, rb⟩ := r₂.reads 9 h2
  refine ne_dataH ra rb (shaped_ok h1) (shaped_ok h2) (by have := hA.2.2; rw [cLine_eq]; omega) ?_
  rw [eqv_eqB h1 h2]; exact PostE.here0 S (.bool _)
theorem eq_ok : OpOk prog w h₀ n (compareOp .Eq) eqD := by
  intro A s μ σ v d v' d' r σ' E hA S r₁ r₂ hf
  unfold eqD at hf
  split at hf
  · cases hf; cases r₁; cases r₂; exact eq_int (PostE.here0 S (.bool _))
  · split at hf
    · rename_i hk; cases hf
      rw [Bool.and_eq_true] at hk
      exact eq_gen hA S r₁ r₂ (by simpa [okE] using hk.1) (by simpa [okE] using hk.2)
    · cases hf
  · split at hf
    · rename_i hk; cases hf
      rw [Bool.and_eq_true] at hk
      exact eq_gen hA S r₁ r₂ (by simpa [okE] using hk.1) (by simpa [okE] using hk.2)
    · cases hf
  · cases hf
theorem ne_ok : OpOk prog w h₀ n (compareOp .NotEq) neD := by
  intro A s μ σ v d v' d' r σ' E hA S r₁ r₂ hf
  unfold neD at hf
  split at hf
  · cases hf; cases r₁; cases r₂; exact ne_int (PostE.here0 S (.bool _))
  · split at hf
    · rename_i hk; cases hf
      rw [Bool.and_eq_true] at hk
      exact ne_gen hA S r₁ r₂ (by simpa [okE] using hk.1) (by simpa [okE] using hk.2)
    · cases hf
  · split at hf
    · rename_i hk; cases hf
      rw [Bool.and_eq_true] at hk
      exact ne_gen hA S r₁ r₂ (by simpa [okE] using hk.1) (by simpa [okE] using hk.2)
    · cases hf
  · cases hf
theorem idxL_some {l : List D} {k : Int} {σ σ' : Sto} {r : D} (h : idxL l k σ = some (r, σ')) : 0 ≤ k ∧ k < 2 ^ 62 ∧ l[k.toNat]? = some r ∧ σ' = σ := by
  unfold idxL at h
  split at h
  · rename_i hk
    rw [Bool.and_eq_true, decide_eq_true_eq] at hk
    have := small_lt hk.2
    rw [Option.map_eq_some_iff] at h
    obtain ⟨x, hx, e⟩ := h; cases e
    exact ⟨hk.1, by omega, hx, rfl⟩
  · cases h
theorem seqIdx {k : Int} {m : Nat} (h0 : 0 ≤ k) (h : k.toNat < m) : seqIndex? k m = some k.toNat := by
  unfold seqIndex?
  have h1 : ¬ k < 0 := by omega
  have h2 : k < (m : Int) := by omega
  simp [h1, h0, h2]
theorem Snd.sub {e i : Expr} {pos : Pos} {a b : Cmd} (hs : ∀ o v, subscripted i false o v = operate [o, v] (getItem o v)) (H : Snd prog w h₀ n sh e a) (H' : Snd prog w h₀ n sh i b) :
    Snd prog w h₀ n sh (.Subscript e i pos) (c2 idxD a b) := by
  intro A env s μ Γ σ d σ' E hA S F hc
  simp only [c2, Option.bind_eq_some_iff] at hc
  obtain ⟨⟨d₁, σ₁⟩, e₁, ⟨d₂, σ₂⟩, e₂, e₃⟩ := hc
  refine PyProof.Rows.Subscript_ (H.go hA S F e₁ fun v₁ h₁ tk₁ μ₁ x₁ S₁ F₁ r₁ => H'.go hA S₁ F₁ e₂ fun v₂ h₂ tk₂ μ₂ x₂ S₂ F₂ r₂ => ?_)
  have r₁' := r₁.ext (NoSeq.no _) x₂
  dsimp only at e₃
  unfold idxD at e₃
  split at e₃
  · obtain ⟨h0, h1, hx, rfl⟩ := idxL_some e₃
    cases r₂
    cases r₁' with | lst p m q =>
    obtain ⟨v, hv, rv⟩ := q.get hx
    exact tail_any (s := { s with heap := h₂, toks := tk₂ }) p.isList.typeIs slot_list_getitem.lookup (wpAny_getItem_list p.isList h0 (by omega) (by simpa using hv) ⟨h₂, tk₂, μ₂, rfl, x₁.trans x₂, S₂, rv⟩) (hs _ _)
  · obtain ⟨h0, h1, hx, rfl⟩ := idxL_some e₃
    cases r₂
    cases r₁' with | tup p m q =>
    obtain ⟨v, hv, rv⟩ := q.get hx
    obtain ⟨kk, eo⟩ := p
    refine tail_any (s := { s with heap := h₂, toks := tk₂ }) (T := "tuple") ⟨_, eo, rfl⟩ PySem.F.slot_tuple_getitem.lookup ?_ (hs _ _)
    exact P.getItem_tuple eo (by omega) (by omega) (seqIdx h0 (by have := (List.getElem?_eq_some_iff.mp hv).1; simpa using this)) (by simpa using hv) ⟨h₂, tk₂, μ₂, rfl, x₁.trans x₂, S₂, rv⟩
  · simp only [Option.bind_eq_some_iff] at e₃
    obtain ⟨l, el, e₃⟩ := e₃
    obtain ⟨h0, h1, hx, rfl⟩ := idxL_some e₃
    cases r₂
    cases r₁' with | ref ek =>
    obtain ⟨l', vs, el', p, q⟩ := S₂.at_ _ _ ek
    rw [el] at el'; cases el'
    obtain ⟨v, hv, rv⟩ := q.get hx
    exact tail_any (s := { s with heap := h₂, toks := tk₂ }) p.isList.typeIs slot_list_getitem.lookup (wpAny_getItem_list p.isList h0 (by omega) (by simpa using hv) ⟨h₂, tk₂, μ₂, rfl, x₁.trans x₂, S₂, rv⟩) (hs _ _)
  · cases e₃
theorem okN_size {l : List D} {vs : List Value} {h μ} (q : RepL h μ vs l) (hl : okN l = true) : vs.toArray.size ≤ sizeLine := by
  rw [szl, List.size_toArray, q.length]; have := okN_le hl; omega
theorem Snd.from_ {e i : Expr} {p pos : Pos} {a b : Cmd} (ht : ∀ o r, letTemporaryGo e o r = pure ()) (H : Snd prog w h₀ n sh e a) (H' : Snd prog w h₀ n sh i b) :
    Snd prog w h₀ n sh (.Subscript e (.Slice (some i) none none p) pos) (c2 fromD a b) := by
  intro A env s μ Γ σ d σ' E hA S F hc
  simp only [c2, Option.bind_eq_some_iff] at hc
  obtain ⟨⟨d₁, σ₁⟩, e₁, ⟨d₂, σ₂⟩, e₂, e₃⟩ := hc
  refine wpAny_Subscript_list_slice (H.go hA S F e₁ fun v₁ h₁ tk₁ μ₁ x₁ S₁ F₁ r₁ => H'.go hA S₁ F₁ e₂ fun v₂ h₂ tk₂ μ₂ x₂ S₂ F₂ r₂ => wpAny_pure ?_) ht
  have r₁' := r₁.ext (NoSeq.no _) x₂
  dsimp only at e₃
  unfold fromD at e₃
  split at e₃
  · split at e₃
    · rename_i l k hk; cases e₃
      rw [Bool.and_eq_true, decide_eq_true_eq] at hk
      cases r₂ with | int i t =>
      cases r₁' with | lst q₁ m q =>
      refine ⟨_, _, some k, none, rfl, q₁.isList, okN_size q hk.2, .int _ _, .none, ?_⟩
      obtain ⟨k', rfl⟩ := Int.eq_ofNat_of_zero_le hk.1
      have e5 : slicePick (List.toArray (by assumption : List Value)) (some (k' : Int)) none none = _ := slicePick_from' _ k'
      rw [e5]
      have S₃ := S₂.push { cls := .type "slice", data := .fields #[.int (k' : Int) t, .none, .none] }
      have X₃ := Ext.push (O := No) h₂ μ₂ { cls := .type "slice", data := .fields #[.int (k' : Int) t, .none, .none] }
      refine PostE.lift ((x₁.trans x₂).trans X₃) (tk₁ := tk₂) ?_
      rw [← Heap.size_push h₂ { cls := .type "slice", data := .fields #[.int (k' : Int) t, .none, .none] }]
      exact PostE.lst (s := { s with heap := h₂.push _, toks := tk₂ }) S₃ ((q.ext (NoSeq.no _) X₃).drop k') (by simp)
    · cases e₃
  · cases e₃
theorem upto_end {s : Shared} {h₂ : Heap} {tk₂ : Nat} {μ μ₂ : Mu} {σ₂ : Sto} {vs : List Value} {l : List D} {k : Int} {t : Tok} (x : Ext No s.heap μ h₂ μ₂) (S₂ : St h₀ h₂ μ₂ σ₂) (q : RepL h₂ μ₂ vs l) (hk : 0 ≤ k) :
    PostE h₀ s μ σ₂ (.lst (l.take k.toNat)) (.ref (h₂.objs.size + 1)) { s with heap := (h₂.push { cls := .type "slice", data := .fields #[.none, .int k t, .none] }).push { cls := .type "list", data := .seq (slicePick vs.toArray none (some k) none) }, toks := tk₂ } := by
  obtain ⟨k', rfl⟩ := Int.eq_ofNat_of_zero_le hk
  rw [slicePick_upto' _ k']
  have S₃ := S₂.push { cls := .type "slice", data := .fields #[.none, .int (k' : Int) t, .none] }
  have X₃ := Ext.push (O := No) h₂ μ₂ { cls := .type "slice", data := .fields #[.none, .int (k' : Int) t, .none] }
  refine PostE.lift (x.trans X₃) (tk₁ := tk₂) ?_
  rw [← Heap.size_push h₂ { cls := .type "slice", data := .fields #[.none, .int (k' : Int) t, .none] }]
  exact PostE.lst (s := { s with heap := h₂.push _, toks := tk₂ }) S₃ ((q.ext (NoSeq.no _) X₃).take k') (by simp)
/-- x[:k], whatever the base's expression -/
theorem Snd.upto {e i : Expr} {p pos : Pos} {a b : Cmd} (H : Snd prog w h₀ n sh e a) (H' : Snd prog w h₀ n sh i b) :
    Snd prog w h₀ n sh (.Subscript e (.Slice none (some i) none p) pos) (c2 uptoD a b) := by
  intro A env s μ Γ σ d σ' E hA S F hc
  simp only [c2, Option.bind_eq_some_iff] at hc
  obtain ⟨⟨d₁, σ₁⟩, e₁, ⟨d₂, σ₂⟩, e₂, e₃⟩ := hc
  refine PyProof.Rows.Subscript_ (H.go hA S F e₁ fun v₁ h₁ tk₁ μ₁ x₁ S₁ F₁ r₁ => wpAny_Slice (wpAny_pure (H'.go hA S₁ F₁ e₂ fun v₂ h₂ tk₂ μ₂ x₂ S₂ F₂ r₂ => wpAny_pure ?_)))
  have r₁' := r₁.ext (NoSeq.no _) x₂
  dsimp only at e₃
  unfold uptoD at e₃
  split at e₃
  · split at e₃
    · rename_i l k hk; cases e₃
      rw [Bool.and_eq_true, decide_eq_true_eq] at hk
      cases r₂ with | int i t =>
      cases r₁' with | lst q₁ m q =>
      refine tail_any (T := "list") (ops := _) (q₁.isList.push _).typeIs slot_list_getitem.lookup ?_ rfl
      refine wpAny_getItem_list_slice (q₁.isList.push _) (Heap.IsSliceOf.new ..) .none (.int _ _) .none (by simp) ?_ (okN_size q hk.2)
      dsimp only
      rw [Heap.size_push]
      exact upto_end (x₁.trans x₂) S₂ q hk.1
    · cases e₃
  · split at e₃
    · rename_i l k hk; cases e₃
      rw [Bool.and_eq_true, decide_eq_true_eq] at hk
      cases r₂ with | int i t =>
      cases r₁' with | scr q₁ m q =>
      refine tail_any (T := "list") (ops := _) (q₁.push _).typeIs slot_list_getitem.lookup ?_ rfl
      refine wpAny_getItem_list_slice (q₁.push _) (Heap.IsSliceOf.new ..) .none (.int _ _) .none (by simp) ?_ (okN_size q hk.2)
      dsimp only
      rw [Heap.size_push]
      exact upto_end (x₁.trans x₂) S₂ q hk.1
    · cases e₃
  · cases e₃
/-- list(range(e)) -/
noncomputable def rangeL (k : Int) : List D := (List.range k.toNat).map fun i => .int (i : Nat)
noncomputable def lrD : Op1 := fun x σ => match x with
  | .int k => if decide (k.natAbs ≤ 10000) then some (.lst (rangeL k), σ) else none
  | _ => none
theorem repL_of_items {h : Heap} {μ : Mu} {acc : Array Value} {k : Nat} {a c : Int} (hc : c = 1) (H : ItemsOf (fun i v => ∃ t, v = Value.int (a + i * c) t) acc k) :
    RepL h μ acc.toList ((List.range k).map fun i => D.int (a + (i : Nat))) := by
  subst hc
  obtain ⟨h1, h2⟩ := H
  subst h1
  suffices ∀ (l : List Value) (f : Nat → Int), (∀ j v, l[j]? = some v → ∃ t, v = Value.int (f j) t) → RepL h μ l ((List.range l.length).map fun i => D.int (f i)) by
    have := this acc.toList (fun i => a + i) (fun j v e => by
      obtain ⟨t, e'⟩ := h2 j v (by simpa using e)
      exact ⟨t, by simpa using e'⟩)
    simpa using this
  intro l
  induction l with
  | nil => intro f _; exact .nil
  | cons v l ih =>
    intro f hf
    rw [List.length_cons, List.range_succ_eq_map, List.map_cons, List.map_map]
    obtain ⟨t, rfl⟩ := hf 0 v rfl
    exact .cons (.int _ _) (ih (fun i => f (i + 1)) fun j v e => hf (j + 1) v (by simpa using e))
theorem Snd.lrange {e : Expr} {p₁ p₂ p₃ p₄ : Pos} {a : Cmd} (W : Wd h₀ mg mb) (hx : Str.ofString "list" ∈ sh.gs) (hy : Str.ofString "range" ∈ sh.gs)
    (he : ∀ env, starEach [e] env = [(false, eval e env)]) (H : Snd prog w h₀ n sh e a) :
    Snd prog w h₀ n sh (.Call (.Name (Str.ofString "list") p₁) [.Call (.Name (Str.ofString "range") p₂) [e] [] p₃] [] p₄) (c1 lrD a) := by
  intro A env s μ Γ σ d σ' E hA S F hc
  simp only [c1, Option.bind_eq_some_iff] at hc
  obtain ⟨⟨d₁, σ₁⟩, e₁, e₂⟩ := hc
  dsimp only at e₂
  unfold lrD at e₂
  split at e₂
  · split at e₂
    · rename_i k hk; cases e₂
      rw [decide_eq_true_eq] at hk
      refine wpAny_Call_NameR (bltn_ W S F hx W.b_list (by decide +kernel) ?_)
      refine PySem.callWith_type rfl (Calls.evalArgs_plain (Calls.spliced_cons ?_))
      refine wpAny_Call_NameR (bltn_ W S F hy W.b_range (by decide +kernel) ?_)
      have eb : backTo p₃ (starEach [e] env) = [(false, eval e env)] := by rw [he]; rfl
      rw [eb]
      refine PySem.callWith_type rfl (Calls.evalArgs_plain (Calls.spliced_cons (H.go hA S F e₁ fun v₁ h₁ tk₁ μ₁ x₁ S₁ F₁ r₁ => Calls.spliced_nil ?_)))
      cases r₁ with | int i t =>
      refine call_range_1 (Calls.spliced_nil ?_)
      have S₂ := S₁.push { cls := .type "range", data := .fields #[.int 0 tk₁, .int k t, .int 1 (tk₁ + 1)] }
      have X₂ := Ext.push (O := No) h₁ μ₁ { cls := .type "range", data := .fields #[.int 0 tk₁, .int k t, .int 1 (tk₁ + 1)] }
      have hsz : Builtin.Range.rangeSize 0 k 1 = (k.toNat : Int) := by rw [rangeSize_one]; split <;> omega
      refine call_list_range hA.1 (IsRange.new ..) (small_one (by omega) (by omega) (by omega) (by omega)) hsz (by omega) fun h' tk acc c' hk' hD hI => ?_
      obtain ⟨S₃, X₃⟩ := S₂.keeps (s := { s with heap := _, toks := tk₁ + 1 + 1 }) hk'
      have rr : RepL h' μ₁ acc.toList (rangeL k) := by
        have := repL_of_items (h := h') (μ := μ₁) rfl hI
        simpa [rangeL] using this
      exact ⟨h', tk, μ₁, rfl, (x₁.trans X₂).trans X₃, S₃, .lst (vs := acc.toList) ⟨c', by simpa using hD⟩ (S₂.fresh (fresh_size _)) rr⟩
    · cases e₂
  · cases e₂
end
end Mine
-- F6
namespace Mine
open PySem PySem.W PyProof.Rows
inductive Fl where
  | next | brk | cont | ret (d : D)
noncomputable abbrev SCmd := Gam → Sto → Option (Fl × Gam × Sto)
noncomputable abbrev TCmd := D → Gam → Sto → Option (Gam × Sto)
noncomputable def FlRep (h : Heap) (μ : Mu) (f : Flow) (fl : Fl) : Prop := match fl with
  | .next => f = .next
  | .brk => f = .brk
  | .cont => f = .cont
  | .ret d => ∃ v, f = .ret v ∧ Rep h μ v d
inductive PostT (h₀ : Heap) (sh : Sh) (env : Env) (s : Shared) (μ : Mu) (Γ' : Gam) (σ' : Sto) (s' : Shared) : Prop
  | mk (h' : Heap) (tk' : Nat) (μ' : Mu) (e : s' = { s with heap := h', toks := tk' }) (x : Ext (Own sh env) s.heap μ h' μ') (S : St h₀ h' μ' σ') (F : Fm h₀ sh env h' μ' Γ') : PostT h₀ sh env s μ Γ' σ' s'
inductive PostS (h₀ : Heap) (sh : Sh) (env : Env) (s : Shared) (μ : Mu) (fl : Fl) (Γ' : Gam) (σ' : Sto) (f : Flow) (s' : Shared) : Prop
  | mk (h' : Heap) (tk' : Nat) (μ' : Mu) (e : s' = { s with heap := h', toks := tk' }) (x : Ext (Own sh env) s.heap μ h' μ') (S : St h₀ h' μ' σ') (F : Fm h₀ sh env h' μ' Γ') (r : FlRep h' μ' f fl) : PostS h₀ sh env s μ fl Γ' σ' f s'
theorem PostT.lift {h₀ sh env} {s : Shared} {μ Γ' σ' h₁ tk₁ μ₁ s'} (x : Ext (Own sh env) s.heap μ h₁ μ₁) (p : PostT h₀ sh env { s with heap := h₁, toks := tk₁ } μ₁ Γ' σ' s') : PostT h₀ sh env s μ Γ' σ' s' := by
  obtain ⟨h', tk', μ', rfl, e, S, r⟩ := p
  exact ⟨h', tk', μ', rfl, x.trans e, S, r⟩
theorem PostS.lift {h₀ sh env} {s : Shared} {μ fl Γ' σ' h₁ tk₁ μ₁ f s'} (x : Ext (Own sh env) s.heap μ h₁ μ₁) (p : PostS h₀ sh env { s with heap := h₁, toks := tk₁ } μ₁ fl Γ' σ' f s') : PostS h₀ sh env s μ fl Γ' σ' f s' := by
  obtain ⟨h', tk', μ', rfl, e, S, F, r⟩ := p
  exact ⟨h', tk', μ', rfl, x.trans e, S, F, r⟩
section
variable (prog : Program) (w : World) (h₀ : Heap)
noncomputable def SndT (n : Nat) (sh : Sh) (t : Expr) (c : TCmd) : Prop :=
  ∀ A env s μ Γ σ v d Γ' σ' E, Room n A → St h₀ s.heap μ σ → Fm h₀ sh env s.heap μ Γ → Rep s.heap μ v d → c d Γ σ = some (Γ', σ') →
    wpAny (model prog w) A (assign t env v) (fun _ s' => PostT h₀ sh env s μ Γ' σ' s') E s
noncomputable def tAll : List TCmd → List D → Gam → Sto → Option (Gam × Sto)
  | [], [], Γ, σ => some (Γ, σ)
  | t :: ts, d :: ds, Γ, σ => (t d Γ σ).bind fun p => tAll ts ds p.1 p.2
  | _, _, _, _ => none
noncomputable def SndTL (n : Nat) (sh : Sh) (es : List Expr) (ts : List TCmd) : Prop :=
  ∀ A env s μ Γ σ vs ds Γ' σ' E, Room n A → St h₀ s.heap μ σ → Fm h₀ sh env s.heap μ Γ → RepL s.heap μ vs ds → tAll ts ds Γ σ = some (Γ', σ') →
    wpAny (model prog w) A (assignInOrder ((assignEach es env).map (·.2)) vs) (fun _ s' => PostT h₀ sh env s μ Γ' σ' s') E s
noncomputable def SndS (n : Nat) (sh : Sh) (st : Stmt) (c : SCmd) : Prop :=
  ∀ A env s μ Γ σ fl Γ' σ' E, Room n A → St h₀ s.heap μ σ → Fm h₀ sh env s.heap μ Γ → c Γ σ = some (fl, Γ', σ') →
    wpAny (model prog w) A (exec st env) (PostS h₀ sh env s μ fl Γ' σ') E s
noncomputable def SndB (n : Nat) (sh : Sh) (st : List Stmt) (c : SCmd) : Prop :=
  ∀ A env s μ Γ σ fl Γ' σ' E, Room n A → St h₀ s.heap μ σ → Fm h₀ sh env s.heap μ Γ → c Γ σ = some (fl, Γ', σ') →
    wpAny (model prog w) A (execs st env) (PostS h₀ sh env s μ fl Γ' σ') E s
end
noncomputable def tVar (i : Nat) : TCmd := fun d Γ σ => some (Γ.set i (some d), σ)
noncomputable def tTup (ts : List TCmd) : TCmd := fun d Γ σ => match d with | .tup l => if l.length = ts.length then tAll ts l Γ σ else none | _ => none
noncomputable def setD (o i d : D) (σ : Sto) : Option Sto := match o, i with
  | .ref k, .int j => (σ[k]?).bind fun l => if decide (0 ≤ j) && Nat.blt j.toNat l.length && small j then some (σ.set k (l.set j.toNat d)) else none
  | _, _ => none
noncomputable def tSub (a b : Cmd) : TCmd := fun d Γ σ => (a Γ σ).bind fun p => (b Γ p.2).bind fun q => (setD p.1 q.1 d q.2).map fun σ' => (Γ, σ')
noncomputable def bNil : SCmd := fun Γ σ => some (.next, Γ, σ)
noncomputable def bCons (a b : SCmd) : SCmd := fun Γ σ => (a Γ σ).bind fun p => match p.1 with
  | .next => b p.2.1 p.2.2
  | _ => some p
noncomputable def sAssign (a : Cmd) (t : TCmd) : SCmd := fun Γ σ => (a Γ σ).bind fun p => (t p.1 Γ p.2).map fun q => (.next, q.1, q.2)
noncomputable def sRet (a : Cmd) : SCmd := fun Γ σ => (a Γ σ).map fun p => (.ret p.1, Γ, p.2)
noncomputable def sExpr (a : Cmd) : SCmd := fun Γ σ => (a Γ σ).bind fun p => match p.1 with | .none => some (.next, Γ, p.2) | _ => none
noncomputable def sIf (t : QCmd) (a b : SCmd) : SCmd := fun Γ σ => (t Γ σ).bind fun p => if p.1 then a Γ p.2 else b Γ p.2
noncomputable def sRaise : SCmd := fun _ _ => none
noncomputable def sCont : SCmd := fun Γ σ => some (.cont, Γ, σ)
noncomputable def sAug (f : Op2) (o i a : Cmd) : SCmd := fun Γ σ => (o Γ σ).bind fun p => (i Γ p.2).bind fun q => (idxD p.1 q.1 q.2).bind fun x => (a Γ x.2).bind fun y =>
  (f x.1 y.1 y.2).bind fun z => (setD p.1 q.1 z.1 z.2).map fun σ' => (.next, Γ, σ')
noncomputable def sWhile (t : QCmd) (b : SCmd) : Nat → SCmd
  | 0, _, _ => none
  | k + 1, Γ, σ => (t Γ σ).bind fun p => if p.1 then (b Γ p.2).bind fun q => match q.1 with
      | .next => sWhile t b k q.2.1 q.2.2
      | .cont => sWhile t b k q.2.1 q.2.2
      | .brk => some (.next, q.2.1, q.2.2)
      | .ret d => some (.ret d, q.2.1, q.2.2)
    else some (.next, Γ, p.2)
/-- l.append(e) -/
noncomputable def cApp (a b : Cmd) : Cmd := fun Γ σ => (a Γ σ).bind fun p => (b Γ p.2).bind fun q => match p.1 with
  | .ref k => (q.2[k]?).bind fun l => if okN l then some (.none, q.2.set k (l ++ [q.1])) else none
  | _ => none
noncomputable def cRev (a : Cmd) : Cmd := fun Γ σ => (a Γ σ).bind fun p => match p.1 with
  | .ref k => (p.2[k]?).bind fun l => if okN l then some (.none, p.2.set k l.reverse) else none
  | _ => none
section
variable {prog : Program} {w : World} {h₀ : Heap} {n : Nat} {sh : Sh} {mg mb : Str → Option Value}
theorem wpAny_rel {M : Model} {A : Around} {E : Value → Shared → Prop} {s : Shared} {vs keep : List Value} {Q : Unit → Shared → Prop} (h : Q () s) : wpAny M A (release vs keep) Q E s :=
  fun Γ p _ => by rw [Sem.wp_release]; exact h
theorem SndT.go {t c A env s μ Γ σ v d Γ' σ' E} (H : SndT prog w h₀ n sh t c) (hA : Room n A) (S : St h₀ s.heap μ σ) (F : Fm h₀ sh env s.heap μ Γ) (r : Rep s.heap μ v d) (hc : c d Γ σ = some (Γ', σ')) {Q : Unit → Shared → Prop}
    (k : ∀ h₁ tk₁ μ₁, Ext (Own sh env) s.heap μ h₁ μ₁ → St h₀ h₁ μ₁ σ' → Fm h₀ sh env h₁ μ₁ Γ' → Q () { s with heap := h₁, toks := tk₁ }) :
    wpAny (model prog w) A (assign t env v) Q E s :=
  wpAny_mono (H A env s μ Γ σ v d Γ' σ' E hA S F r hc) (fun _ s' ⟨h₁, tk₁, μ₁, e₁, x, S₁, F₁⟩ => e₁ ▸ k h₁ tk₁ μ₁ x S₁ F₁) fun _ _ e => e
theorem bind_ok {A env s μ Γ σ v d E} {i : Nat} {x : Str} (hi : sh.ns[i]? = some x) (hx : x ∈ sh.ls ∨ x ∈ sh.cw) (S : St h₀ s.heap μ σ) (F : Fm h₀ sh env s.heap μ Γ) (r : Rep s.heap μ v d) :
    wpAny (model prog w) A (bindName env x v) (fun _ s' => PostT h₀ sh env s μ (Γ.set i (some d)) σ s') E s := by
  refine wpAny_bindName ?_
  have hws : x ∈ sh.ws := List.mem_append.mpr hx
  rcases hx with hx | hx
  · obtain ⟨m, hm, _⟩ := F.var
    have hl := F.ls x hx
    refine wpAny_storeName_local hl hm (fun h' hn hs => ?_) (by rw [F.kind]; rfl)
    obtain ⟨F', S', X⟩ := F.stored S hi r hl hm hn hs
    exact ⟨h', s.toks + 1, μ, rfl, X, S', F'⟩
  · obtain ⟨hk, c, hc⟩ := F.cw x hx
    obtain ⟨ov, hcv⟩ := F.cel x c hc
    refine wpAny_storeName_cell F.kind hk hc hcv fun h' hn hs => ?_
    obtain ⟨F', S', X⟩ := F.storedC S hi r hws hk hc hn hs
    exact ⟨h', s.toks, μ, rfl, X, S', F'⟩
theorem SndT.var {i : Nat} {x : Str} {pos : Pos} (hi : sh.ns[i]? = some x) (hx : x ∈ sh.ls ∨ x ∈ sh.cw) : SndT prog w h₀ n sh (.Name x pos) (tVar i) := by
  intro A env s μ Γ σ v d Γ' σ' E hA S F r hc
  cases hc
  rw [PySem.assign_Name]
  exact wpAny_bind (wpAny_standAt (bind_ok hi hx S F r))
theorem SndTL.nil_ : SndTL prog w h₀ n sh [] [] := by
  intro A env s μ Γ σ vs ds Γ' σ' E hA S F r hc
  cases r
  · cases hc
    exact wpAny_pure ⟨s.heap, s.toks, μ, rfl, Ext.refl .., S, F⟩
  · cases hc
theorem SndTL.cons_ {e : Expr} {es : List Expr} {t : TCmd} {ts : List TCmd} (he : ∀ env, assignEach (e :: es) env = (false, assign e env) :: assignEach es env) (H : SndT prog w h₀ n sh e t) (HL : SndTL prog w h₀ n sh es ts) :
    SndTL prog w h₀ n sh (e :: es) (t :: ts) := by
  intro A env s μ Γ σ vs ds Γ' σ' E hA S F r hc
  cases r with
  | nil => cases hc
  | cons a r =>
    simp only [tAll, Option.bind_eq_some_iff] at hc
    obtain ⟨⟨Γ₁, σ₁⟩, e₁, e₂⟩ := hc
    rw [he]
    show wpAny (model prog w) A (holding _ (assign e env _) >>= fun _ => assignInOrder _ _) _ E s
    refine wpAny_bind (wpAny_holding (H.go hA S F a e₁ fun h₁ tk₁ μ₁ x₁ S₁ F₁ => ?_))
    exact wpAny_mono (HL A env { s with heap := h₁, toks := tk₁ } μ₁ Γ₁ σ₁ _ _ Γ' σ' E hA S₁ F₁ (r.ext F.dc.noSeq x₁) e₂) (fun _ s' p => PostT.lift x₁ p) fun _ _ e => e
theorem St.extBut {h h' : Heap} {μ : Mu} {σ : Sto} (S : St h₀ h μ σ) (hx : Heap.ExtBut h.objs.size h h') : St h₀ h' μ σ ∧ Ext No h μ h' μ := by
  have hk : ∀ b o, h.get? b = some o → h'.get? b = some o := fun b o e => hx b o (Nat.ne_of_lt (Heap.lt_size e)) e
  have X : Ext No h μ h' μ := ⟨fun b o e _ _ => hk b o e, [], add_nil μ, by simp⟩
  exact ⟨S.grow (NoSeq.no _) (fun _ f => f.elim) X fun a ha => by
    obtain ⟨o', _, _, e, _⟩ := S.isList ha
    rw [e, hk _ _ e], X⟩
theorem SndT.tup {es : List Expr} {k : Nat} {pos : Pos} {ts : List TCmd} (hn : ∀ env, (assignEach es env).length = ts.length) (hst : ∀ env, (assignEach es env).findIdx? (·.1) = none) (H : SndTL prog w h₀ n sh es ts) :
    SndT prog w h₀ n sh (.Tuple es k pos) (tTup ts) := by
  intro A env s μ Γ σ v d Γ' σ' E hA S F r hc
  unfold tTup at hc
  split at hc
  · split at hc
    · rename_i l hl
      cases r with | tup p m q =>
      obtain ⟨kk, e⟩ := p
      have ht : s.heap.IsTuple _ _ := ⟨_, e, rfl, kk, rfl⟩
      refine wpAny_assign_Tuple hA.1 ht (by rw [hn, List.size_toArray, q.length, hl]) (hst env) fun h' hx => ?_
      obtain ⟨S', X⟩ := S.extBut hx
      exact wpAny_mono (H A env { s with heap := h' } μ Γ σ _ _ Γ' σ' E hA S' (F.ext S (Flds.no _) X) (q.ext (NoSeq.no _) X) hc) (fun _ s' p => PostT.lift (tk₁ := s.toks) X.of p) fun _ _ e => e
    · cases hc
  · cases hc
theorem mapSeq_at {h : Heap} {a : Addr} {vs : List Value} (f : Array Value → Array Value) (hp : h.PlainList a vs.toArray) {ws : List Value} (hf : f vs.toArray = ws.toArray) :
    (h.update a (Obj.mapSeq f)).PlainList a ws.toArray := by
  obtain ⟨k, e⟩ := hp
  have h1 : (h.update a (Obj.mapSeq f)).get? a = some { cls := .type "list", data := .seq (f vs.toArray) (if (f vs.toArray).size == vs.toArray.size then k else k + 1) } := Heap.get?_update_self _ e rfl
  rw [hf] at h1; exact ⟨_, h1⟩
theorem setItem_ok {A s μ σ o d₁ i d₂ v d σ' E} (S : St h₀ s.heap μ σ) (r₁ : Rep s.heap μ o d₁) (r₂ : Rep s.heap μ i d₂) (r : Rep s.heap μ v d) (hc : setD d₁ d₂ d σ = some σ')
    {Q : Unit → Shared → Prop} (k : ∀ h₁, Ext No s.heap μ h₁ μ → St h₀ h₁ μ σ' → Q () { s with heap := h₁ }) :
    wpAny (model prog w) A (setItem o i v) Q E s := by
  unfold setD at hc
  split at hc
  · rename_i _ _ jk j
    simp only [Option.bind_eq_some_iff] at hc
    obtain ⟨l, el, hc⟩ := hc
    split at hc
    · rename_i hk; cases hc
      simp only [Bool.and_eq_true, decide_eq_true_eq] at hk
      obtain ⟨⟨h0, h1⟩, h2⟩ := hk
      have h1' : j.toNat < l.length := by simp [Nat.blt] at h1; omega
      have h2' := small_lt h2
      cases r₂
      cases r₁ with | ref ek =>
      obtain ⟨l', vs, el', p, q⟩ := S.at_ _ _ ek
      rw [el] at el'; cases el'
      obtain ⟨kk, e⟩ := p
      have hq := q.length
      refine ki_setAt e h0 (by omega) (by simp; omega) ?_
      obtain ⟨S', X⟩ := S.upd ek (Heap.SameBut.update s.heap _ _) (mapSeq_at (fun x => x.setIfInBounds j.toNat v) ⟨kk, e⟩ (ws := vs.set j.toNat v) (by apply Array.toList_inj.mp; simp)) (q.set j.toNat r)
      exact k _ X S'
    · cases hc
  · cases hc
theorem SndT.sub {o i : Expr} {pos : Pos} {a b : Cmd} (H : Snd prog w h₀ n sh o a) (H' : Snd prog w h₀ n sh i b) : SndT prog w h₀ n sh (.Subscript o i pos) (tSub a b) := by
  intro A env s μ Γ σ v d Γ' σ' E hA S F r hc
  simp only [tSub, Option.bind_eq_some_iff, Option.map_eq_some_iff] at hc
  obtain ⟨⟨d₁, σ₁⟩, e₁, ⟨d₂, σ₂⟩, e₂, σ₃, e₃, e₄⟩ := hc
  cases e₄
  show wpAny (model prog w) A (holding [v] (eval o env) >>= fun ov => holding [v, ov] (eval i env) >>= fun iv => standAt pos >>= fun _ => holding [v, ov, iv] (setItem ov iv v) >>= fun _ => release _ []) _ E s
  refine wpAny_bind (wpAny_holding (H.go hA S F e₁ fun v₁ h₁ tk₁ μ₁ x₁ S₁ F₁ r₁ => wpAny_bind (wpAny_holding (H'.go hA S₁ F₁ e₂ fun v₂ h₂ tk₂ μ₂ x₂ S₂ F₂ r₂ =>
    wpAny_bind (wpAny_standAt (wpAny_bind (wpAny_holding ?_)))))))
  refine setItem_ok (s := { s with heap := h₂, toks := tk₂ }) S₂ (r₁.ext (NoSeq.no _) x₂) r₂ (r.ext (NoSeq.no _) (x₁.trans x₂)) e₃ fun h₃ x₃ S₃ => wpAny_rel ?_
  exact ⟨h₃, tk₂, μ₂, rfl, ((x₁.trans x₂).trans x₃).of, S₃, F₂.ext S₂ (Flds.no _) x₃⟩
-- statements
theorem SndB.nil_ : SndB prog w h₀ n sh [] bNil := by
  intro A env s μ Γ σ fl Γ' σ' E hA S F hc
  cases hc
  exact wpAny_execs_nil ⟨s.heap, s.toks, μ, rfl, Ext.refl .., S, F, rfl⟩
theorem SndB.cons_ {st : Stmt} {rest : List Stmt} {a b : SCmd} (H : SndS prog w h₀ n sh st a) (H' : SndB prog w h₀ n sh rest b) : SndB prog w h₀ n sh (st :: rest) (bCons a b) := by
  intro A env s μ Γ σ fl Γ' σ' E hA S F hc
  simp only [bCons, Option.bind_eq_some_iff] at hc
  obtain ⟨⟨fl₁, Γ₁, σ₁⟩, e₁, e₂⟩ := hc
  refine wpAny_execs_cons (wpAny_mono (H A env s μ Γ σ fl₁ Γ₁ σ₁ E hA S F e₁) (fun f s' p => ?_) fun _ _ e => e)
  obtain ⟨h₁, tk₁, μ₁, rfl, x₁, S₁, F₁, hf⟩ := p
  cases fl₁ with
  | next =>
    cases hf
    exact wpAny_mono (H' A env { s with heap := h₁, toks := tk₁ } μ₁ Γ₁ σ₁ fl Γ' σ' E hA S₁ F₁ e₂) (fun _ s' p => PostS.lift x₁ p) fun _ _ e => e
  | brk => cases hf; cases e₂; exact ⟨h₁, tk₁, μ₁, rfl, x₁, S₁, F₁, rfl⟩
  | cont => cases hf; cases e₂; exact ⟨h₁, tk₁, μ₁, rfl, x₁, S₁, F₁, rfl⟩
  | ret d => obtain ⟨v, rfl, hv⟩ := hf; cases e₂; exact ⟨h₁, tk₁, μ₁, rfl, x₁, S₁, F₁, v, rfl, hv⟩
theorem SndS.ret {e : Expr} {pos : Pos} {a : Cmd} (H : Snd prog w h₀ n sh e a) : SndS prog w h₀ n sh (.Return (some e) pos) (sRet a) := by
  intro A env s μ Γ σ fl Γ' σ' E hA S F hc
  simp only [sRet, Option.map_eq_some_iff] at hc
  obtain ⟨⟨d₁, σ₁⟩, e₁, e₂⟩ := hc; cases e₂
  exact wpAny_Return_some (H.go hA S F e₁ fun v₁ h₁ tk₁ μ₁ x₁ S₁ F₁ r₁ => ⟨h₁, tk₁, μ₁, rfl, x₁.of, S₁, F₁, v₁, rfl, r₁⟩)
theorem SndS.expr {e : Expr} {pos : Pos} {a : Cmd} (hs : ∀ env, swapsWith e Option.none pos.line env = pure false) (H : Snd prog w h₀ n sh e a) : SndS prog w h₀ n sh (.Expr e pos) (sExpr a) := by
  intro A env s μ Γ σ fl Γ' σ' E hA S F hc
  simp only [sExpr, Option.bind_eq_some_iff] at hc
  obtain ⟨⟨d₁, σ₁⟩, e₁, e₂⟩ := hc
  dsimp only at e₂
  split at e₂
  · cases e₂
    refine wpAny_Expr (H.go hA S F e₁ fun v₁ h₁ tk₁ μ₁ x₁ S₁ F₁ r₁ => ?_) (by unfold interactive; rw [F.kind]; rfl) (hs env)
    cases r₁
    exact ⟨h₁, tk₁, μ₁, rfl, x₁.of, S₁, F₁, rfl⟩
  · cases e₂
theorem SndS.if_ {t : Expr} {b e : List Stmt} {pos : Pos} {q : QCmd} {c d : SCmd} (H : SndQ prog w h₀ n sh t q) (Hb : SndB prog w h₀ n sh b c) (He : SndB prog w h₀ n sh e d) : SndS prog w h₀ n sh (.If t b e pos) (sIf q c d) := by
  intro A env s μ Γ σ fl Γ' σ' E hA S F hc
  simp only [sIf, Option.bind_eq_some_iff] at hc
  obtain ⟨⟨bb, σ₁⟩, e₁, e₂⟩ := hc
  refine wpAny_If (H.go hA S F e₁ fun h₁ tk₁ μ₁ x₁ S₁ F₁ => ?_)
  cases bb with
  | true => exact wpAny_mono (Hb A env { s with heap := h₁, toks := tk₁ } μ₁ Γ σ₁ fl Γ' σ' E hA S₁ F₁ e₂) (fun _ s' p => PostS.lift x₁.of p) fun _ _ e => e
  | false => exact wpAny_mono (He A env { s with heap := h₁, toks := tk₁ } μ₁ Γ σ₁ fl Γ' σ' E hA S₁ F₁ e₂) (fun _ s' p => PostS.lift x₁.of p) fun _ _ e => e
theorem SndS.raise {st : Stmt} : SndS prog w h₀ n sh st sRaise := by
  intro A env s μ Γ σ fl Γ' σ' E hA S F hc
  cases hc
theorem SndS.cont {pos : Pos} : SndS prog w h₀ n sh (.Continue pos) sCont := by
  intro A env s μ Γ σ fl Γ' σ' E hA S F hc
  cases hc
  show wpAny (model prog w) A (standAt pos >>= fun _ => pure Flow.cont) _ E s
  exact wpAny_bind (wpAny_standAt (wpAny_pure ⟨s.heap, s.toks, μ, rfl, Ext.refl .., S, F, rfl⟩))
theorem SndS.assign {t value : Expr} {pos : Pos} {a : Cmd} {c : TCmd} (hs : ∀ env, swapsWithSole [t] value pos.line env = pure false)
    (hw : ∀ env, env.scope.kind = .function → (∀ x ∈ sh.ls, env.kindOf x = some .local) → (∀ x ∈ sh.cw, env.kindOf x = some .cell) → swappedStores [t] value env = pure Option.none)
    (he : ∀ env, assignEach [t] env = [(false, PySem.assign t env)]) (H : Snd prog w h₀ n sh value a) (HT : SndT prog w h₀ n sh t c) : SndS prog w h₀ n sh (.Assign [t] value pos) (sAssign a c) := by
  intro A env s μ Γ σ fl Γ' σ' E hA S F hc
  simp only [sAssign, Option.bind_eq_some_iff, Option.map_eq_some_iff] at hc
  obtain ⟨⟨d₁, σ₁⟩, e₁, ⟨Γ₂, σ₂⟩, e₂, e₃⟩ := hc; cases e₃
  rw [exec_Assign]
  refine wpAny_bind (wpAny_standAt ?_)
  rw [hs]
  refine wpAny_bind (wpAny_pure ?_)
  simp only [Bool.false_eq_true, if_false]
  refine wpAny_bind (H.go hA S F e₁ fun v₁ h₁ tk₁ μ₁ x₁ S₁ F₁ r₁ => ?_)
  rw [hw env F.kind F.ls (fun x hx => (F.cw x hx).1), he]
  refine wpAny_bind (wpAny_pure ?_)
  show wpAny (model prog w) A (assignAll v₁ [PySem.assign t env] >>= fun _ => pure Flow.next) _ E _
  refine wpAny_bind ?_
  show wpAny (model prog w) A (PySem.assign t env v₁) _ E _
  exact HT.go hA S₁ F₁ r₁ e₂ fun h₂ tk₂ μ₂ x₂ S₂ F₂ => wpAny_pure ⟨h₂, tk₂, μ₂, rfl, x₁.of.trans x₂, S₂, F₂, rfl⟩
/-- a, b = x, y : the stores come in the other order -/
theorem SndS.swap {xs : List Str} {ts : List Expr} {k : Nat} {tp pos : Pos} {value : Expr} {a : Cmd} {cs : List TCmd} (hs : ∀ env, swapsWithSole [.Tuple ts k tp] value pos.line env = pure false)
    (hw : ∀ env, env.scope.kind = .function → (∀ x ∈ sh.ls, env.kindOf x = some .local) → (∀ x ∈ sh.cw, env.kindOf x = some .cell) → swappedStores [.Tuple ts k tp] value env = pure (some xs))
    (hxs : xs.length = cs.length) (H : Snd prog w h₀ n sh value a)
    (HT : ∀ A env s μ Γ σ vs ds Γ' σ' E, Room n A → St h₀ s.heap μ σ → Fm h₀ sh env s.heap μ Γ → RepL s.heap μ vs ds → tAll cs ds Γ σ = some (Γ', σ') →
      wpAny (model prog w) A (assignInOrder (xs.reverse.map fun n => bindName env n) vs.reverse) (fun _ s' => PostT h₀ sh env s μ Γ' σ' s') E s) :
    SndS prog w h₀ n sh (.Assign [.Tuple ts k tp] value pos) (sAssign a (tTup cs)) := by
  intro A env s μ Γ σ fl Γ' σ' E hA S F hc
  simp only [sAssign, Option.bind_eq_some_iff, Option.map_eq_some_iff] at hc
  obtain ⟨⟨d₁, σ₁⟩, e₁, ⟨Γ₂, σ₂⟩, e₂, e₃⟩ := hc; cases e₃
  refine Assign_Tuple_swapped (H.go hA S F e₁ fun v₁ h₁ tk₁ μ₁ x₁ S₁ F₁ r₁ => ?_) (hs env) (hw env F.kind F.ls (fun x hx => (F.cw x hx).1))
  dsimp only at e₂
  unfold tTup at e₂
  split at e₂
  · split at e₂
    · rename_i l hl
      cases r₁ with | tup p m q =>
      rename_i vs
      obtain ⟨kk, e⟩ := p
      have ht : h₁.IsTuple _ _ := ⟨_, e, rfl, kk, rfl⟩
      have hz : xs.length = vs.toArray.size := by rw [List.size_toArray, q.length, hl, hxs]
      rw [hz]
      refine wpAny_unpackItems_tuple (s := { s with heap := h₁, toks := tk₁ }) hA.1 ht fun h' hx => ?_
      obtain ⟨S', X⟩ := S₁.extBut hx
      refine wpAny_mono (HT A env { s with heap := h', toks := tk₁ } μ₁ Γ σ₁ _ _ _ _ E hA S' (F₁.ext S₁ (Flds.no _) X) (q.ext (NoSeq.no _) X) e₂) (fun _ s' p => ?_) fun _ _ e => e
      obtain ⟨h₂, tk₂, μ₂, rfl, x₂, S₂, F₂⟩ := p
      exact ⟨h₂, tk₂, μ₂, rfl, (x₁.trans X).of.trans x₂, S₂, F₂, rfl⟩
    · cases e₂
  · cases e₂
theorem swap2 {i j : Nat} {x y : Str} (hi : sh.ns[i]? = some x) (hj : sh.ns[j]? = some y) (hx : x ∈ sh.ls) (hy : y ∈ sh.ls) (hij : i ≠ j) :
    ∀ A env s μ Γ σ vs ds Γ' σ' E, Room n A → St h₀ s.heap μ σ → Fm h₀ sh env s.heap μ Γ → RepL s.heap μ vs ds → tAll [tVar i, tVar j] ds Γ σ = some (Γ', σ') →
      wpAny (model prog w) A (assignInOrder ([x, y].reverse.map fun n => bindName env n) vs.reverse) (fun _ s' => PostT h₀ sh env s μ Γ' σ' s') E s := by
  intro A env s μ Γ σ vs ds Γ' σ' E hA S F r hc
  cases r with
  | nil => cases hc
  | cons a r => cases r with
    | nil => cases hc
    | cons b r => cases r with
      | cons c r => cases hc
      | nil =>
        cases hc
        show wpAny (model prog w) A (holding _ (bindName env y _) >>= fun _ => (holding _ (bindName env x _) >>= fun _ => pure ())) _ E s
        refine wpAny_bind (wpAny_holding (wpAny_mono (bind_ok hj (.inl hy) S F b) (fun _ s' p => ?_) fun _ _ e => e))
        obtain ⟨h₁, tk₁, μ₁, rfl, x₁, S₁, F₁⟩ := p
        refine wpAny_bind (wpAny_holding (wpAny_mono (bind_ok (s := { s with heap := h₁, toks := tk₁ }) hi (.inl hx) S₁ F₁ (a.ext F.dc.noSeq x₁)) (fun _ s' p => wpAny_pure ?_) fun _ _ e => e))
        rw [List.set_comm _ _ hij]
        exact PostT.lift x₁ p
theorem set3 {Γ : Gam} {a b c : Option D} {i j l : Nat} (hij : i ≠ j) (hil : i ≠ l) (hjl : j ≠ l) : ((Γ.set l c).set j b).set i a = ((Γ.set i a).set j b).set l c := by
  rw [List.set_comm c b hjl.symm, List.set_comm c a hil.symm, List.set_comm b a hij.symm]
theorem swap3 {i j l : Nat} {x y z : Str} (hi : sh.ns[i]? = some x) (hj : sh.ns[j]? = some y) (hl : sh.ns[l]? = some z) (hx : x ∈ sh.ls) (hy : y ∈ sh.ls) (hz : z ∈ sh.ls) (hij : i ≠ j) (hil : i ≠ l) (hjl : j ≠ l) :
    ∀ A env s μ Γ σ vs ds Γ' σ' E, Room n A → St h₀ s.heap μ σ → Fm h₀ sh env s.heap μ Γ → RepL s.heap μ vs ds → tAll [tVar i, tVar j, tVar l] ds Γ σ = some (Γ', σ') →
      wpAny (model prog w) A (assignInOrder ([x, y, z].reverse.map fun n => bindName env n) vs.reverse) (fun _ s' => PostT h₀ sh env s μ Γ' σ' s') E s := by
  intro A env s μ Γ σ vs ds Γ' σ' E hA S F r hc
  cases r with
  | nil => cases hc
  | cons a r => cases r with
    | nil => cases hc
    | cons b r => cases r with
      | nil => cases hc
      | cons c r => cases r with
        | cons c r => cases hc
        | nil =>
          cases hc
          show wpAny (model prog w) A (holding _ (bindName env z _) >>= fun _ => (holding _ (bindName env y _) >>= fun _ => (holding _ (bindName env x _) >>= fun _ => pure ()))) _ E s
          refine wpAny_bind (wpAny_holding (wpAny_mono (bind_ok hl (.inl hz) S F c) (fun _ s' p => ?_) fun _ _ e => e))
          obtain ⟨h₁, tk₁, μ₁, rfl, x₁, S₁, F₁⟩ := p
          refine wpAny_bind (wpAny_holding (wpAny_mono (bind_ok (s := { s with heap := h₁, toks := tk₁ }) hj (.inl hy) S₁ F₁ (b.ext F.dc.noSeq x₁)) (fun _ s' p => ?_) fun _ _ e => e))
          obtain ⟨h₂, tk₂, μ₂, rfl, x₂, S₂, F₂⟩ := p
          refine wpAny_bind (wpAny_holding (wpAny_mono (bind_ok (s := { s with heap := h₂, toks := tk₂ }) hi (.inl hx) S₂ F₂ (a.ext F.dc.noSeq (x₁.trans x₂))) (fun _ s' p => wpAny_pure ?_) fun _ _ e => e))
          rw [set3 hij hil hjl] at p
          exact PostT.lift (x₁.trans x₂) p
end
end Mine
-- F7
namespace Mine
open PySem PySem.W PyProof.Rows
noncomputable def iaddD : Op2 := fun x y σ => match x, y with
  | .int a, .int b => some (.int (a + b), σ)
  | _, _ => none
section
variable {prog : Program} {w : World} {h₀ : Heap} {n : Nat} {sh : Sh} {mg mb : Str → Option Value}
theorem iadd_ok : OpOk prog w h₀ n (inplaceOp .Add) iaddD := by
  intro A s μ σ v d v' d' r σ' E hA S r₁ r₂ hf
  unfold iaddD at hf
  split at hf
  · cases hf; cases r₁; cases r₂; exact iadd_int (PostE.here S (.int ..))
  · cases hf
theorem isub_ok : OpOk prog w h₀ n (inplaceOp .Sub) subD := by
  intro A s μ σ v d v' d' r σ' E hA S r₁ r₂ hf
  unfold subD at hf
  split at hf
  · cases hf; cases r₁; cases r₂; exact isub_int (PostE.here S (.int ..))
  · cases hf
theorem getItem_ref {A s μ σ o i k d₂ r σ' E} (S : St h₀ s.heap μ σ) (r₁ : Rep s.heap μ o (.ref k)) (r₂ : Rep s.heap μ i d₂) (hc : idxD (.ref k) d₂ σ = some (r, σ'))
    {Q : Value → Shared → Prop} (q : σ' = σ → ∀ v, Rep s.heap μ v r → Q v s) : wpAny (model prog w) A (getItem o i) Q E s := by
  cases d₂ with
  | int j =>
    simp only [idxD, Option.bind_eq_some_iff] at hc
    obtain ⟨l, el, hc⟩ := hc
    obtain ⟨h0, h1, hx, rfl⟩ := idxL_some hc
    cases r₂
    cases r₁ with | ref ek =>
    obtain ⟨l', vs, el', p, qq⟩ := S.at_ _ _ ek
    rw [el] at el'; cases el'
    obtain ⟨v, hv, rv⟩ := qq.get hx
    exact wpAny_getItem_list p.isList h0 (by omega) (by simpa using hv) (q rfl v rv)
  | _ => cases hc
theorem SndS.aug {o i value : Expr} {sp pos : Pos} {op : Operator} {f : Op2} {a b c : Cmd} (hf : OpOk prog w h₀ n (inplaceOp op) f)
    (hi : ∀ ov iv new, augStore i ov iv new = (do holding [new, ov, iv] (setItem ov iv new); release [new, ov, iv] []; pure .next))
    (H : Snd prog w h₀ n sh o a) (H' : Snd prog w h₀ n sh i b) (Hv : Snd prog w h₀ n sh value c) : SndS prog w h₀ n sh (.AugAssign (.Subscript o i sp) op value pos) (sAug f a b c) := by
  intro A env s μ Γ σ fl Γ' σ' E hA S F hc
  simp only [sAug, Option.bind_eq_some_iff, Option.map_eq_some_iff] at hc
  obtain ⟨⟨d₁, σ₁⟩, e₁, ⟨d₂, σ₂⟩, e₂, ⟨d₃, σ₃⟩, e₃, ⟨d₄, σ₄⟩, e₄, ⟨d₅, σ₅⟩, e₅, σ₆, e₆, e₇⟩ := hc
  cases e₇
  have hk : ∃ k, d₁ = .ref k := by
    cases d₁ <;> first | exact ⟨_, rfl⟩ | (unfold setD at e₆; cases e₆)
  obtain ⟨k, rfl⟩ := hk
  refine wpAny_AugAssign_SubscriptAny (H.go hA S F e₁ fun v₁ h₁ tk₁ μ₁ x₁ S₁ F₁ r₁ => H'.go hA S₁ F₁ e₂ fun v₂ h₂ tk₂ μ₂ x₂ S₂ F₂ r₂ => ?_) hi
  refine getItem_ref (s := { s with heap := h₂, toks := tk₂ }) S₂ (r₁.ext (NoSeq.no _) x₂) r₂ e₃ fun e3 v₃ r₃ => ?_
  subst e3
  refine Hv.go (s := { s with heap := h₂, toks := tk₂ }) hA S₂ F₂ e₄ fun v₄ h₄ tk₄ μ₄ x₄ S₄ F₄ r₄ => ?_
  refine wpAny_mono (hf A { s with heap := h₄, toks := tk₄ } μ₄ σ₄ v₃ d₃ v₄ d₄ d₅ σ₅ E hA S₄ (r₃.ext (NoSeq.no _) x₄) r₄ e₅) (fun v₅ s' p => ?_) fun _ _ e => e
  obtain ⟨h₅, tk₅, μ₅, rfl, x₅, S₅, r₅⟩ := p
  have x45 := x₄.trans x₅
  refine setItem_ok (s := { s with heap := h₅, toks := tk₅ }) S₅ ((r₁.ext (NoSeq.no _) x₂).ext (NoSeq.no _) x45) (r₂.ext (NoSeq.no _) x45) r₅ e₆ fun h₆ x₆ S₆ => ?_
  have x56 := x₅.trans x₆
  exact ⟨h₆, tk₅, μ₅, rfl, (((x₁.trans x₂).trans x₄).trans x56).of, S₆, F₄.ext S₄ (Flds.no _) x56, rfl⟩
inductive WhInv (h₀ : Heap) (sh : Sh) (env : Env) (q : QCmd) (c : SCmd) (fl : Fl) (Γ' : Gam) (σ' : Sto) (s : Shared) (μ : Mu) (k : Nat) (s' : Shared) : Prop
  | mk (h₁ : Heap) (tk₁ : Nat) (μ₁ : Mu) (Γ₁ : Gam) (σ₁ : Sto) (e : s' = { s with heap := h₁, toks := tk₁ }) (x : Ext (Own sh env) s.heap μ h₁ μ₁) (S : St h₀ h₁ μ₁ σ₁) (F : Fm h₀ sh env h₁ μ₁ Γ₁) (hc : sWhile q c k Γ₁ σ₁ = some (fl, Γ', σ')) : WhInv h₀ sh env q c fl Γ' σ' s μ k s'
theorem SndS.while_ {t : Expr} {b : List Stmt} {pos : Pos} {q : QCmd} {c : SCmd} (H : SndQ prog w h₀ n sh t q) (Hb : SndB prog w h₀ n sh b c) (fuel : Nat) : SndS prog w h₀ n sh (.While t b [] pos) (sWhile q c fuel) := by
  intro A env s μ Γ σ fl Γ' σ' E hA S F hc
  refine wpAny_While ?_
  show codeAny (model prog w) A _ _ s
  refine codeAny_whileLoop (WhInv h₀ sh env q c fl Γ' σ' s μ) ?_ fuel
    ⟨s.heap, s.toks, μ, Γ, σ, rfl, Ext.refl .., S, F, hc⟩
  rintro k s' ⟨h₁, tk₁, μ₁, Γ₁, σ₁, rfl, x₁, S₁, F₁, hc₁⟩
  cases k with
  | zero => cases hc₁
  | succ k =>
    simp only [sWhile, Option.bind_eq_some_iff] at hc₁
    obtain ⟨⟨bb, σ₂⟩, e₁, e₂⟩ := hc₁
    refine H.go hA S₁ F₁ e₁ fun h₂ tk₂ μ₂ x₂ S₂ F₂ => ?_
    cases bb with
    | false =>
      cases e₂
      exact wpAny_execs_nil ⟨h₂, tk₂, μ₂, rfl, x₁.trans x₂.of, S₂, F₂, rfl⟩
    | true =>
      simp only [if_true, Option.bind_eq_some_iff] at e₂ ⊢
      obtain ⟨⟨fl₃, Γ₃, σ₃⟩, e₃, e₄⟩ := e₂
      refine wpAny_mono (Hb A env { s with heap := h₂, toks := tk₂ } μ₂ Γ₁ σ₂ fl₃ Γ₃ σ₃ _ hA S₂ F₂ e₃) (fun f s' p => ?_) fun _ _ e => e
      obtain ⟨h₃, tk₃, μ₃, rfl, x₃, S₃, F₃, hf⟩ := p
      have x13 := (x₁.trans x₂.of).trans x₃
      cases fl₃ with
      | next => cases hf; exact ⟨k, Nat.lt_succ_self _, h₃, tk₃, μ₃, Γ₃, σ₃, rfl, x13, S₃, F₃, e₄⟩
      | cont => cases hf; exact ⟨k, Nat.lt_succ_self _, h₃, tk₃, μ₃, Γ₃, σ₃, rfl, x13, S₃, F₃, e₄⟩
      | brk => cases hf; cases e₄; exact ⟨h₃, tk₃, μ₃, rfl, x13, S₃, F₃, rfl⟩
      | ret d => obtain ⟨v, rfl, hv⟩ := hf; cases e₄; exact ⟨h₃, tk₃, μ₃, rfl, x13, S₃, F₃, v, rfl, hv⟩
theorem Snd.append_ {o e : Expr} {apos pos : Pos} {a b : Cmd} (hbase : ∀ env, attributeBase o (Str.ofString "append") env (eval o env) = eval o env) (hline : (apos.endLine == pos.line) = true)
    (he : ∀ env, starEach [e] env = [(false, eval e env)]) (H : Snd prog w h₀ n sh o a) (H' : Snd prog w h₀ n sh e b) :
    Snd prog w h₀ n sh (.Call (.Attribute o (Str.ofString "append") apos) [e] [] pos) (cApp a b) := by
  intro A env s μ Γ σ d σ' E hA S F hc
  simp only [cApp, Option.bind_eq_some_iff] at hc
  obtain ⟨⟨d₁, σ₁⟩, e₁, ⟨d₂, σ₂⟩, e₂, e₃⟩ := hc
  dsimp only at e₃
  split at e₃
  · rename_i k
    simp only [Option.bind_eq_some_iff] at e₃
    obtain ⟨l, el, e₃⟩ := e₃
    split at e₃
    · rename_i hl; cases e₃
      have eb : backTo pos (starEach [e] env) = [(false, eval e env)] := by rw [he]; rfl
      refine wpAny_Call_method1_late (hbase env) hline eb (H.go hA S F e₁ fun v₁ h₁ tk₁ μ₁ x₁ S₁ F₁ r₁ => ?_)
      cases r₁ with | ref ek =>
      obtain ⟨l', vs', _, p', _⟩ := S₁.at_ _ _ ek
      obtain ⟨kk, eo⟩ := p'
      refine ⟨"list", "list.append", PySem.F.plainAttrs_list, PySem.F.slot_list_append, PySem.F.type_list_append, ⟨_, eo, rfl⟩, fun b hb => by cases hb; exact ⟨_, eo, rfl⟩, ?_⟩
      refine P.append_list (H'.go hA S₁ F₁ e₂ fun v₂ h₂ tk₂ μ₂ x₂ S₂ F₂ r₂ => ?_)
      have ek₂ := x₂.idx ek
      obtain ⟨l₂, vs, el', p, q⟩ := S₂.at_ _ _ ek₂
      rw [el] at el'; cases el'
      obtain ⟨kk₂, eo₂⟩ := p
      refine ⟨vs.toArray, kk₂, okN_size q hl, eo₂, ?_⟩
      obtain ⟨S', X⟩ := S₂.upd ek₂ (Heap.SameBut.update h₂ _ _) (mapSeq_at (fun xs => xs.push v₂) ⟨kk₂, eo₂⟩ (ws := vs ++ [v₂]) (by simp)) (q.snoc r₂)
      exact ⟨_, tk₂, μ₂, rfl, (x₁.trans x₂).trans X, S', .none⟩
    · cases e₃
  · cases e₃
theorem Snd.reverse_ {o : Expr} {apos pos : Pos} {a : Cmd} (hbase : ∀ env, attributeBase o (Str.ofString "reverse") env (eval o env) = eval o env) (hline : (apos.endLine == pos.line) = true)
    (H : Snd prog w h₀ n sh o a) : Snd prog w h₀ n sh (.Call (.Attribute o (Str.ofString "reverse") apos) [] [] pos) (cRev a) := by
  intro A env s μ Γ σ d σ' E hA S F hc
  simp only [cRev, Option.bind_eq_some_iff] at hc
  obtain ⟨⟨d₁, σ₁⟩, e₁, e₃⟩ := hc
  dsimp only at e₃
  split at e₃
  · rename_i k
    simp only [Option.bind_eq_some_iff] at e₃
    obtain ⟨l, el, e₃⟩ := e₃
    split at e₃
    · rename_i hl; cases e₃
      refine wpAny_Call_method0_late (hbase env) hline (H.go hA S F e₁ fun v₁ h₁ tk₁ μ₁ x₁ S₁ F₁ r₁ => ?_)
      cases r₁ with | ref ek =>
      obtain ⟨l', vs, el', p, q⟩ := S₁.at_ _ _ ek
      rw [el] at el'; cases el'
      obtain ⟨kk, eo⟩ := p
      refine ⟨"list", "list.reverse", PySem.F.plainAttrs_list, PySem.F.slot_list_reverse, PySem.F.type_list_reverse, ⟨_, eo, rfl⟩, fun b hb => by cases hb; exact ⟨_, eo, rfl⟩, ?_⟩
      refine P.reverse_list (s := { s with heap := h₁, toks := tk₁ }) eo ?_ (okN_size q hl)
      obtain ⟨S', X⟩ := S₁.upd ek (Heap.SameBut.update h₁ _ _) (mapSeq_at (fun xs => xs.reverse) ⟨kk, eo⟩ (ws := vs.reverse) (by simp)) q.rev
      exact ⟨_, tk₁, μ₁, rfl, x₁.trans X, S', .none⟩
    · cases e₃
  · cases e₃
-- iterators
inductive Src where
  | lst (l : List D) | rng (a b : Int) | enm (l : List D)
noncomputable def enumL : Nat → List D → List D
  | _, [] => []
  | i, d :: l => .tup [.int i, d] :: enumL (i + 1) l
noncomputable def Src.items : Src → List D
  | .lst l => l
  | .rng a b => (List.range (b - a).toNat).map fun i => .int (a + (i : Nat))
  | .enm l => enumL 0 l
noncomputable def Src.isEnm : Src → Bool
  | .enm _ => true
  | _ => false
structure ItOk (prog : Program) (w : World) (h₀ : Heap) (I : Addr) (X : Addr → Prop) (ds : List D) (en : Bool) (J : Nat → Heap → Mu → Prop) : Prop where
  flds : ∀ i h μ, J i h μ → Flds X h
  lo : ∀ a, X a → h₀.get? a = Option.none
  stab : ∀ i h μ O h' μ', J i h μ → DC O h → ExtW O h μ h' μ' → J i h' μ'
  res : ∀ i h μ a h', J i h μ → h.get? a = Option.none → (∀ b o, h.get? b = some o → h'.get? b = some o) → J i h' ⟨μ.l, a :: μ.r⟩
  self : ∀ A s i μ (Q : Value → Shared → Prop) E, J i s.heap μ → Q (.ref I) s → wpAny (model prog w) A (pyIter (.ref I)) Q E s
  next : ∀ A s i μ σ d tgt (Q : Value → Shared → Prop) E, A.handled = Option.none → St h₀ s.heap μ σ → J i s.heap μ → ds[i]? = some d → (en = true → ∃ es k p, tgt = Expr.Tuple es k p) →
     (∀ v h' tk', J (i + 1) h' μ → Ext X s.heap μ h' μ → St h₀ h' μ σ → Rep h' μ v d → Q v { s with heap := h', toks := tk' }) →
     wpAny (model prog w) A (pyNext (.ref I)) (fun r s₁ => ∃ v, r = some v ∧ wpAny (model prog w) A (letOwnedTupleGo tgt (.ref I) v) (fun _ s₂ => Q v s₂) E s₁) E s
  done : ∀ A s i μ σ (Q : Shared → Prop) E, A.handled = Option.none → St h₀ s.heap μ σ → J i s.heap μ → ds[i]? = Option.none → (∀ h', Ext X s.heap μ h' μ → St h₀ h' μ σ → Q { s with heap := h' }) →
     wpAny (model prog w) A (pyNext (.ref I)) (fun r s₁ => r = Option.none ∧ Q s₁) E s
theorem St.iter {X : Addr → Prop} {h h' : Heap} {μ : Mu} {σ : Sto} (S : St h₀ h μ σ) (hX : Flds X h) (hlo : ∀ a, X a → h₀.get? a = Option.none) (K : ∀ b o, ¬ X b → h.get? b = some o → h'.get? b = some o) :
    Ext X h μ h' μ ∧ St h₀ h' μ σ := by
  have x : Ext X h μ h' μ := ⟨fun b o e _ hn => K b o hn e, [], add_nil μ, by simp⟩
  refine ⟨x, S.grow hX.noSeq hlo x fun a ha => ?_⟩
  obtain ⟨o, xs, m, e, hd⟩ := S.isList ha
  rw [e]
  refine K a o (fun q => ?_) e
  obtain ⟨vs, hv⟩ := hX a o q e
  rw [hd] at hv; cases hv
theorem letOwned_list {A s E} {tgt : Expr} {I : Addr} {v : Value} {o : Obj} {T : String} (ho : s.heap.get? I = some o) (hc : o.cls = .type T)
    (hT : ["enumerate", "zip", "dict_itemiterator", "dict_reverseitemiterator", "odict_iterator", "itertools.zip_longest", "itertools.pairwise"].contains T = false)
    {Q : Unit → Shared → Prop} (h : Q () s) : wpAny (model prog w) A (letOwnedTupleGo tgt (.ref I) v) Q E s := by
  have key : wpAny (model prog w) A (do
      let (.ref r, .ref a) := (Value.ref I, v) | return
      let o ← load r
      match o.cls, o.data with
      | .type n, .fields vs =>
        if ["enumerate", "zip", "dict_itemiterator", "dict_reverseitemiterator", "odict_iterator", "itertools.zip_longest", "itertools.pairwise"].contains n && vs[0]? == some (rawInt a) then
          rule "for.unpacks-the-owned-tuple"
          updateField r 0 .none
      | _, _ => pure ()) Q E s := by
    cases v with
    | ref a =>
      refine wpAny_bind (wpAny_load ho ?_)
      rw [hc]
      cases o.data with
      | fields vs => dsimp only; rw [hT]; exact wpAny_pure h
      | _ => exact wpAny_pure h
    | _ => exact wpAny_pure h
  unfold letOwnedTupleGo
  split
  · exact key
  · exact key
  · exact wpAny_pure h
end
end Mine
-- F8
namespace Mine
open PySem PySem.W PyProof.Rows
theorem res_notIn {h : Heap} {μ : Mu} {a b : Addr} {o : Obj} (hb : b ∉ μ) (e : h.get? b = some o) (ha : h.get? a = none) : b ∉ (⟨μ.l, a :: μ.r⟩ : Mu) := fun q => by
  rcases q with q | q
  · exact hb (.inl q)
  · rcases List.mem_cons.mp q with q | q
    · subst q; rw [ha] at e; cases e
    · exact hb (.inr q)
mutual
theorem Rep.reserve {h h' : Heap} {μ : Mu} {a : Addr} (ha : h.get? a = none) (K : ∀ b o, h.get? b = some o → h'.get? b = some o) : ∀ {v d}, Rep h μ v d → Rep h' ⟨μ.l, a :: μ.r⟩ v d
  | _, _, .none => .none
  | _, _, .bool b => .bool b
  | _, _, .int i t => .int i t
  | _, _, .str i t => .str i t
  | _, _, .tup ⟨n, ho⟩ hm r => .tup ⟨n, K _ _ ho⟩ (res_notIn hm ho ha) (r.reserve ha K)
  | _, _, .lst ⟨n, ho⟩ hm r => .lst ⟨n, K _ _ ho⟩ (res_notIn hm ho ha) (r.reserve ha K)
  | _, _, .scr ⟨o, ho, hc, n, hd⟩ hm r => .scr ⟨o, K _ _ ho, hc, n, hd⟩ (res_notIn hm ho ha) (r.reserve ha K)
  | _, _, .ref e => .ref e
theorem RepL.reserve {h h' : Heap} {μ : Mu} {a : Addr} (ha : h.get? a = none) (K : ∀ b o, h.get? b = some o → h'.get? b = some o) : ∀ {vs ds}, RepL h μ vs ds → RepL h' ⟨μ.l, a :: μ.r⟩ vs ds
  | _, _, .nil => .nil
  | _, _, .cons x r => .cons (x.reserve ha K) (r.reserve ha K)
end
mutual
theorem Rep.release {h : Heap} {l r' r : List Addr} (hs : ∀ a ∈ r, a ∈ r') : ∀ {v d}, Rep h ⟨l, r'⟩ v d → Rep h ⟨l, r⟩ v d
  | _, _, .none => .none
  | _, _, .bool b => .bool b
  | _, _, .int i t => .int i t
  | _, _, .str i t => .str i t
  | _, _, .tup ho hm x => .tup ho (fun q => hm (q.imp id (hs _))) (x.release hs)
  | _, _, .lst ho hm x => .lst ho (fun q => hm (q.imp id (hs _))) (x.release hs)
  | _, _, .scr ho hm x => .scr ho (fun q => hm (q.imp id (hs _))) (x.release hs)
  | _, _, .ref e => .ref e
theorem RepL.release {h : Heap} {l r' r : List Addr} (hs : ∀ a ∈ r, a ∈ r') : ∀ {vs ds}, RepL h ⟨l, r'⟩ vs ds → RepL h ⟨l, r⟩ vs ds
  | _, _, .nil => .nil
  | _, _, .cons x y => .cons (x.release hs) (y.release hs)
end
theorem listIter_flds {h : Heap} {I l : Addr} {i : Nat} (x : h.IsListIter I l i) : Flds (fun a => a = I) h := fun a o ha e => by
  cases ha
  obtain ⟨o', e', _, hd⟩ := x
  rw [e] at e'; cases e'; exact ⟨_, hd⟩
theorem DC.notFlds {O : Addr → Prop} {h : Heap} (x : DC O h) {a : Addr} {o : Obj} {vs} (e : h.get? a = some o) (hd : o.data = .fields vs) : ¬ O a := fun q => by
  rcases x a o q e with ⟨_, _, hv⟩ | ⟨_, hv⟩ <;> (rw [hd] at hv; cases hv)
theorem DC.notSeq {O : Addr → Prop} {h : Heap} (x : DC O h) {a : Addr} {o : Obj} {vs m} (e : h.get? a = some o) (hd : o.data = .seq vs m) : ¬ O a := fun q => by
  rcases x a o q e with ⟨_, _, hv⟩ | ⟨_, hv⟩ <;> (rw [hd] at hv; cases hv)
noncomputable def JList (I l : Addr) (vs : List Value) (ds : List D) (i : Nat) (h : Heap) (μ : Mu) : Prop := h.IsListIter I l i ∧ h.PlainList l vs.toArray ∧ l ∉ μ ∧ RepL h μ vs ds ∧ I ∉ μ
section
variable {prog : Program} {w : World} {h₀ : Heap} {n : Nat} {sh : Sh} {mg mb : Str → Option Value}
theorem itList {I l : Addr} {vs : List Value} {ds : List D} (hlo : h₀.get? I = none) : ItOk prog w h₀ I (fun a => a = I) ds false (JList I l vs ds) where
  flds := fun i h μ x => listIter_flds x.1
  lo := fun a ha => by cases ha; exact hlo
  stab := fun i h μ O h' μ' ⟨x1, ⟨k, e⟩, x3, x4, x5⟩ hO x => by
    obtain ⟨o, ho, hc, hd⟩ := x1
    exact ⟨⟨o, x.keep _ _ ho x5 (hO.notFlds ho hd), hc, hd⟩, ⟨k, x.keep _ _ e x3 (hO.notSeq e rfl)⟩, x.notIn e x3 (hO.notSeq e rfl), x4.extW hO.noSeq x, x.notIn ho x5 (hO.notFlds ho hd)⟩
  res := fun i h μ a h' ⟨⟨o, ho, hc, hd⟩, ⟨k, e⟩, x3, x4, x5⟩ ha K => ⟨⟨o, K _ _ ho, hc, hd⟩, ⟨k, K _ _ e⟩, res_notIn x3 e ha, x4.reserve ha K, res_notIn x5 ho ha⟩
  self := fun A s i μ Q E x h => wpAny_pyIter_listiter x.1 h
  next := fun A s i μ σ d tgt Q E hh S ⟨x1, x2, x3, x4, x5⟩ hd _ k => by
    obtain ⟨v, hv, rv⟩ := x4.get hd
    refine wpAny_pyNext_list_item x1 x2.isList (by simpa using hv) fun h' hit hs => ⟨v, rfl, ?_⟩
    obtain ⟨o, ho, hc, _⟩ := id hit
    have hX := listIter_flds x1
    obtain ⟨X, S'⟩ := S.iter hX (fun a ha => by cases ha; exact hlo) (fun b o hb e => (hs.2 b hb).trans e)
    refine letOwned_list (s := { s with heap := h' }) ho hc (by decide +kernel) ?_
    obtain ⟨kk, e⟩ := x2
    have hlI : l ≠ I := fun q => by
      obtain ⟨vs', hv'⟩ := hX l _ q e; cases hv'
    exact k v h' s.toks ⟨hit, ⟨kk, (hs.2 l hlI).trans e⟩, x3, x4.ext hX.noSeq X, x5⟩ X S' (rv.ext hX.noSeq X)
  done := fun A s i μ σ Q E hh S ⟨x1, x2, x3, x4, x5⟩ hd k => by
    have hv : vs.toArray[i]? = none := by
      have h1 := List.getElem?_eq_none_iff.mp hd
      simp; rw [x4.length]; exact h1
    refine wpAny_pyNext_list_end hh x1 x2.isList hv fun h' hx => ⟨rfl, ?_⟩
    obtain ⟨X, S'⟩ := S.iter (listIter_flds x1) (fun a ha => by cases ha; exact hlo) (fun b o hb e => hx b o hb e)
    exact k h' X S'
noncomputable def JRange (I : Addr) (a b : Int) (i : Nat) (h : Heap) (μ : Mu) : Prop := IsRangeIter h I (a + (i : Nat)) (((b - a).toNat : Int) - (i : Nat)) 1 ∧ I ∉ μ
theorem rangeIter_flds {h : Heap} {I : Addr} {x y z : Int} (q : IsRangeIter h I x y z) : Flds (fun a => a = I) h := fun a o ha e => by
  cases ha; rw [q] at e; cases e; exact ⟨_, rfl⟩
theorem itRange {I : Addr} {a b : Int} (hlo : h₀.get? I = none) : ItOk prog w h₀ I (fun a => a = I) (Src.items (.rng a b)) false (JRange I a b) where
  flds := fun i h μ x => rangeIter_flds x.1
  lo := fun a ha => by cases ha; exact hlo
  stab := fun i h μ O h' μ' ⟨x1, x5⟩ hO x => ⟨x.keep _ _ x1 x5 (hO.notFlds x1 rfl), x.notIn x1 x5 (hO.notFlds x1 rfl)⟩
  res := fun i h μ a h' ⟨x1, x5⟩ ha K => ⟨K _ _ x1, res_notIn x5 x1 ha⟩
  self := fun A s i μ Q E x h => wpAny_pyIter_rangeiter x.1 h
  next := fun A s i μ σ d tgt Q E hh S ⟨x1, x5⟩ hd _ k => by
    simp only [Src.items, List.getElem?_map, Option.map_eq_some_iff] at hd
    obtain ⟨j, hj, rfl⟩ := hd
    have hji : j = i ∧ i < (b - a).toNat := by
      obtain ⟨h1, h2⟩ := List.getElem?_eq_some_iff.mp hj
      simp at h1 h2; exact ⟨h2.symm, by omega⟩
    obtain ⟨rfl, hlt⟩ := hji
    refine wpAny_pyNext_range_item x1 (by omega) fun h' hit hs => ⟨_, rfl, ?_⟩
    have hX := rangeIter_flds x1
    obtain ⟨X, S'⟩ := S.iter hX (fun a ha => by cases ha; exact hlo) (fun b o hb e => (hs.2 b hb).trans e)
    refine letOwned_list (s := { s with heap := h', toks := s.toks + 1 }) hit rfl (by decide +kernel) ?_
    refine k _ h' (s.toks + 1) ⟨?_, x5⟩ X S' (.int _ _)
    have e1 : a + ((j + 1 : Nat) : Int) = a + (j : Nat) + 1 := by omega
    have e2 : ((b - a).toNat : Int) - ((j + 1 : Nat) : Int) = ((b - a).toNat : Int) - (j : Nat) - 1 := by omega
    rw [e1, e2]; exact hit
  done := fun A s i μ σ Q E hh S ⟨x1, x5⟩ hd k => by
    have hle : (b - a).toNat ≤ i := by
      have h1 := List.getElem?_eq_none_iff.mp hd
      simpa [Src.items] using h1
    refine wpAny_pyNext_range_end hh x1 (by omega) fun h' hx => ⟨rfl, ?_⟩
    obtain ⟨X, S'⟩ := S.iter (rangeIter_flds x1) (fun a ha => by cases ha; exact hlo) (fun b o hb e => hx b o hb e)
    exact k h' X S'
theorem enumL_get : ∀ {l : List D} {k i : Nat} {d : D}, (enumL k l)[i]? = some d → ∃ e, l[i]? = some e ∧ d = .tup [.int ((k + i : Nat) : Int), e]
  | [], k, i, d, h => by simp [enumL] at h
  | x :: l, k, 0, d, h => by simp [enumL] at h; subst h; exact ⟨x, rfl, by simp⟩
  | x :: l, k, i + 1, d, h => by
    rw [enumL, List.getElem?_cons_succ] at h
    obtain ⟨e, he, hd⟩ := enumL_get h
    exact ⟨e, by simpa using he, by rw [hd]; congr 4; omega⟩
theorem enumL_len : ∀ (l : List D) (k : Nat), (enumL k l).length = l.length
  | [], _ => rfl
  | _ :: l, k => by rw [enumL, List.length_cons, List.length_cons, enumL_len l]
noncomputable def JEnum (e I l : Addr) (vs : List Value) (ds : List D) (i : Nat) (h : Heap) (μ : Mu) : Prop :=
  (∃ old, IsEnum h e I ((i : Nat) : Int) old) ∧ h.IsListIter I l i ∧ h.PlainList l vs.toArray ∧ l ∉ μ ∧ RepL h μ vs ds ∧ I ∉ μ ∧ e ∉ μ ∧ e ≠ I
theorem enum_flds {h : Heap} {e I l : Addr} {i : Nat} {j : Int} {old : Value} (q : IsEnum h e I j old) (x : h.IsListIter I l i) : Flds (fun a => a = e ∨ a = I) h := fun a o ha eo => by
  rcases ha with rfl | rfl
  · rw [q] at eo; cases eo; exact ⟨_, rfl⟩
  · exact listIter_flds x _ o rfl eo
theorem itEnum {e I l : Addr} {vs : List Value} {ds : List D} (hlo : h₀.get? I = none) (hloe : h₀.get? e = none) : ItOk prog w h₀ e (fun a => a = e ∨ a = I) (enumL 0 ds) true (JEnum e I l vs ds) where
  flds := fun i h μ ⟨⟨old, x0⟩, x1, _⟩ => enum_flds x0 x1
  lo := fun a ha => by rcases ha with rfl | rfl <;> assumption
  stab := fun i h μ O h' μ' ⟨⟨old, x0⟩, x1, ⟨k, eo⟩, x3, x4, x5, x6, x7⟩ hO x => by
    obtain ⟨o, ho, hc, hd⟩ := x1
    exact ⟨⟨old, x.keep _ _ x0 x6 (hO.notFlds x0 rfl)⟩, ⟨o, x.keep _ _ ho x5 (hO.notFlds ho hd), hc, hd⟩, ⟨k, x.keep _ _ eo x3 (hO.notSeq eo rfl)⟩, x.notIn eo x3 (hO.notSeq eo rfl), x4.extW hO.noSeq x,
      x.notIn ho x5 (hO.notFlds ho hd), x.notIn x0 x6 (hO.notFlds x0 rfl), x7⟩
  res := fun i h μ a h' ⟨⟨old, x0⟩, ⟨o, ho, hc, hd⟩, ⟨k, eo⟩, x3, x4, x5, x6, x7⟩ ha K =>
    ⟨⟨old, K _ _ x0⟩, ⟨o, K _ _ ho, hc, hd⟩, ⟨k, K _ _ eo⟩, res_notIn x3 eo ha, x4.reserve ha K, res_notIn x5 ho ha, res_notIn x6 x0 ha, x7⟩
  self := fun A s i μ Q E ⟨⟨old, x0⟩, _⟩ h => wpAny_pyIter_enum x0 h
  next := fun A s i μ σ d tgt Q E hh S ⟨⟨old, x0⟩, x1, x2, x3, x4, x5, x6, x7⟩ hd ht k => by
    obtain ⟨es, kk, p, rfl⟩ := ht rfl
    obtain ⟨d', hd', rfl⟩ := enumL_get hd
    obtain ⟨v, hv, rv⟩ := x4.get hd'
    refine wpAny_pyNext_enum_item x0 x1 x2.isList (by simpa using hv) x7 fun h₁ heo hit₁ ht₁ hz₁ hk₁ => ⟨_, rfl, ?_⟩
    refine wpAny_letOwnedTupleGo_enum heo fun h₂ he₂ hs₂ => ?_
    replace hs₂ : Heap.SameBut e h₁ h₂ := hs₂
    have hX := enum_flds x0 x1
    have K : ∀ b o, ¬ (b = e ∨ b = I) → s.heap.get? b = some o → h₂.get? b = some o := fun b o hb eb =>
      (hs₂.2 b fun q => hb (.inl q)).trans (hk₁ b o (fun q => hb (.inl q)) (fun q => hb (.inr q)) eb)
    obtain ⟨X, S'⟩ := S.iter hX (fun a ha => by rcases ha with rfl | rfl <;> assumption) K
    obtain ⟨kl, el⟩ := x2
    have hlX : ¬ (l = e ∨ l = I) := fun q => by obtain ⟨vs', hv'⟩ := hX l _ q el; cases hv'
    have heH : e < s.heap.objs.size := Heap.lt_size x0
    have hTn : s.heap.objs.size ∉ μ := S.fresh (fresh_size _)
    have hT : PlainT h₂ s.heap.objs.size #[.int i s.toks, v] := ⟨0, (hs₂.2 _ (Nat.ne_of_gt heH)).trans ht₁⟩
    refine k _ h₂ (s.toks + 1) ⟨⟨_, by rw [show ((i + 1 : Nat) : Int) = (i : Int) + 1 by omega]; exact he₂⟩, ?_, ⟨kl, K l _ hlX el⟩, x3, x4.ext hX.noSeq X, x5, x6, x7⟩ X S' ?_
    · obtain ⟨oi, hoi, r⟩ := hit₁
      exact ⟨oi, (hs₂.2 _ (Ne.symm x7)).trans hoi, r⟩
    · simp only [Nat.zero_add]
      exact .tup (vs := [.int i s.toks, v]) hT hTn (.cons (.int _ _) (.cons (rv.ext hX.noSeq X) .nil))
  done := fun A s i μ σ Q E hh S ⟨⟨old, x0⟩, x1, x2, x3, x4, x5, x6, x7⟩ hd k => by
    have hv : vs.toArray[i]? = none := by
      have h1 := List.getElem?_eq_none_iff.mp hd
      rw [enumL_len] at h1
      simp; rw [x4.length]; exact h1
    refine wpAny_pyNext_enum_end hh x0 x1 x2.isList hv fun h' hx => ⟨rfl, ?_⟩
    obtain ⟨X, S'⟩ := S.iter (enum_flds x0 x1) (fun a ha => by rcases ha with rfl | rfl <;> assumption) (fun b o hb e => hx b o (fun q => hb (.inr q)) e)
    exact k h' X S'
end
end Mine
-- F9
namespace Mine
open PySem PySem.W PyProof.Rows
noncomputable abbrev ICmd := Gam → Sto → Option (List D × Sto)
noncomputable def rngL (a b : Int) : List D := (List.range (b - a).toNat).map fun i => .int (a + (i : Nat))
noncomputable def iLst (a : Cmd) : ICmd := fun Γ σ => (a Γ σ).bind fun p => match p.1 with | .lst l => some (l, p.2) | _ => none
noncomputable def iEnm (a : Cmd) : ICmd := fun Γ σ => (a Γ σ).bind fun p => match p.1 with | .lst l => some (enumL 0 l, p.2) | _ => none
noncomputable def iRng1 (a : Cmd) : ICmd := fun Γ σ => (a Γ σ).bind fun p => match p.1 with | .int k => if k.natAbs ≤ 10000 then some (rngL 0 k, p.2) else none | _ => none
noncomputable def iRng2 (a b : Cmd) : ICmd := fun Γ σ => (a Γ σ).bind fun p => (b Γ p.2).bind fun q => match p.1, q.1 with
  | .int j, .int k => if j.natAbs ≤ 10000 ∧ k.natAbs ≤ 10000 then some (rngL j k, q.2) else none
  | _, _ => none
noncomputable def forL (t : TCmd) (b : SCmd) : List D → Gam → Sto → Option (Fl × Gam × Sto)
  | [], Γ, σ => some (.next, Γ, σ)
  | d :: ds, Γ, σ => (t d Γ σ).bind fun p => (b p.1 p.2).bind fun q => match q.1 with
    | .next => forL t b ds q.2.1 q.2.2
    | .cont => forL t b ds q.2.1 q.2.2
    | .brk => some (.next, q.2.1, q.2.2)
    | .ret d => some (.ret d, q.2.1, q.2.2)
noncomputable def sFor (c : ICmd) (t : TCmd) (b : SCmd) : SCmd := fun Γ σ => (c Γ σ).bind fun p => forL t b p.1 Γ p.2
inductive PostI (prog : Program) (w : World) (h₀ : Heap) (s : Shared) (μ : Mu) (σ' : Sto) (ds : List D) (en : Bool) (it : Value) (s₂ : Shared) : Prop
  | mk (I : Addr) (X : Addr → Prop) (J : Nat → Heap → Mu → Prop) (h' : Heap) (tk' : Nat) (μ' : Mu) (e1 : it = .ref I) (e2 : s₂ = { s with heap := h', toks := tk' }) (x : Ext No s.heap μ h' μ') (S : St h₀ h' μ' σ') (ok : ItOk prog w h₀ I X ds en J) (j : J 0 h' μ')
      (hX : ∀ a, X a → s.heap.get? a = none) : PostI prog w h₀ s μ σ' ds en it s₂
inductive PostN (h₀ : Heap) (s : Shared) (μ : Mu) (σ : Sto) (X : Addr → Prop) (J : Heap → Mu → Prop) (d : D) (v : Value) (s₂ : Shared) : Prop
  | mk (h₃ : Heap) (tk₃ : Nat) (e : s₂ = { s with heap := h₃, toks := tk₃ }) (j : J h₃ μ) (x : Ext X s.heap μ h₃ μ) (S : St h₀ h₃ μ σ) (r : Rep h₃ μ v d) : PostN h₀ s μ σ X J d v s₂
inductive PostD (h₀ : Heap) (s : Shared) (μ : Mu) (σ : Sto) (X : Addr → Prop) (s₁ : Shared) : Prop
  | mk (h₃ : Heap) (e : s₁ = { s with heap := h₃ }) (x : Ext X s.heap μ h₃ μ) (S : St h₀ h₃ μ σ) : PostD h₀ s μ σ X s₁
inductive ForInv (h₀ : Heap) (sh : Sh) (env : Env) (X : Addr → Prop) (J : Nat → Heap → Mu → Prop) (t : TCmd) (d : SCmd) (ds : List D) (fl : Fl) (Γ' : Gam) (σ' : Sto) (s : Shared) (μ : Mu) (k : Nat) (s' : Shared) : Prop
  | mk (i : Nat) (h₂ : Heap) (tk₂ : Nat) (μ₂ : Mu) (Γ₂ : Gam) (σ₂ : Sto) (ek : k = ds.length + 1 - i) (hi : i ≤ ds.length) (e : s' = { s with heap := h₂, toks := tk₂ }) (x : Ext (fun a => Own sh env a ∨ X a) s.heap μ h₂ μ₂) (S : St h₀ h₂ μ₂ σ₂) (F : Fm h₀ sh env h₂ μ₂ Γ₂) (j : J i h₂ μ₂)
      (hc : forL t d (ds.drop i) Γ₂ σ₂ = some (fl, Γ', σ')) : ForInv h₀ sh env X J t d ds fl Γ' σ' s μ k s'
section
variable (prog : Program) (w : World) (h₀ : Heap)
noncomputable def SndI (n : Nat) (sh : Sh) (e : Expr) (en : Bool) (c : ICmd) : Prop :=
  ∀ A env s μ Γ σ ds σ' E, Room n A → St h₀ s.heap μ σ → Fm h₀ sh env s.heap μ Γ → c Γ σ = some (ds, σ') →
    wpAny (model prog w) A (eval e env) (fun x s₁ => wpAny (model prog w) A (pyIter x) (fun it s₂ => PostI prog w h₀ s μ σ' ds en it s₂) E s₁) E s
end
section
variable {prog : Program} {w : World} {h₀ : Heap} {n : Nat} {sh : Sh} {mg mb : Str → Option Value}
theorem Ext.none_of {h h' : Heap} {μ μ' : Mu} (x : Ext No h μ h' μ') {a : Addr} (ha : h'.get? a = none) (hm : a ∉ μ') : h.get? a = none := by
  cases e : h.get? a with
  | none => rfl
  | some o =>
    obtain ⟨ν, rfl, _⟩ := x.pre
    have := x.keep a o e (fun q => hm (.inl (List.mem_append_left _ q))) (fun f => f)
    rw [ha] at this; cases this
theorem SndI.lst {e : Expr} {a : Cmd} (H : Snd prog w h₀ n sh e a) : SndI prog w h₀ n sh e false (iLst a) := by
  intro A env s μ Γ σ ds σ' E hA S F hc
  simp only [iLst, Option.bind_eq_some_iff] at hc
  obtain ⟨⟨d₁, σ₁⟩, e₁, e₂⟩ := hc
  dsimp only at e₂
  split at e₂
  · cases e₂
    refine H.go hA S F e₁ fun v₁ h₁ tk₁ μ₁ x₁ S₁ F₁ r₁ => ?_
    cases r₁ with | lst p m q =>
    refine wpAny_pyIter_list p.isList ?_
    have x₂ := Ext.push (O := No) h₁ μ₁ { cls := .type "list_iterator", data := .fields #[.ref (by assumption), .int 0 0] }
    have hn := fresh_size h₁
    have hnm := S₁.fresh hn
    obtain ⟨k, eo⟩ := p
    exact ⟨_, _, _, _, tk₁, μ₁, rfl, rfl, x₁.trans x₂, S₁.push _, itList (S₁.base_none hn), ⟨⟨_, Heap.get?_push_size _ rfl, rfl, rfl⟩, ⟨k, Heap.get?_push_of_some _ eo⟩, m, q.ext (NoSeq.no _) x₂, hnm⟩,
      fun a ha => by cases ha; exact x₁.none_of hn hnm⟩
  · cases e₂
theorem rng_iter {A s E} {r : Addr} {j k : Int} {t u v : Tok} {μ : Mu} {σ : Sto} (S : St h₀ s.heap μ σ) (hr : IsRange s.heap r j k 1 t u v) (hj : j.natAbs ≤ 10000) (hk : k.natAbs ≤ 10000) :
    wpAny (model prog w) A (pyIter (.ref r)) (fun it s₂ => PostI prog w h₀ s μ σ (rngL j k) false it s₂) E s := by
  refine wpAny_pyIter_range hr (small_one (by omega) (by omega) (by omega) (by omega)) ?_
  have hn := fresh_size s.heap
  have hsz : Builtin.Range.rangeSize j k 1 = ((k - j).toNat : Int) := by rw [rangeSize_one]; split <;> omega
  refine ⟨s.heap.objs.size, _, JRange s.heap.objs.size j k, _, s.toks, μ, rfl, rfl, Ext.push _ _ _, S.push _, itRange (S.base_none hn), ⟨?_, S.fresh hn⟩, fun a ha => by cases ha; exact hn⟩
  have e1 : j + ((0 : Nat) : Int) = j := by simp
  have e2 : (((k - j).toNat : Int) - ((0 : Nat) : Int)) = Builtin.Range.rangeSize j k 1 := by rw [hsz]; simp
  rw [e1, e2]
  exact Heap.get?_push_size _ rfl
theorem SndI.rng1 {e : Expr} {p₂ p₃ : Pos} {a : Cmd} (W : Wd h₀ mg mb) (hy : Str.ofString "range" ∈ sh.gs) (he : ∀ env, starEach [e] env = [(false, eval e env)]) (H : Snd prog w h₀ n sh e a) :
    SndI prog w h₀ n sh (.Call (.Name (Str.ofString "range") p₂) [e] [] p₃) false (iRng1 a) := by
  intro A env s μ Γ σ ds σ' E hA S F hc
  simp only [iRng1, Option.bind_eq_some_iff] at hc
  obtain ⟨⟨d₁, σ₁⟩, e₁, e₂⟩ := hc
  dsimp only at e₂
  split at e₂
  · split at e₂
    · rename_i k hk; cases e₂
      refine wpAny_Call_NameR (bltn_ W S F hy W.b_range (by decide +kernel) ?_)
      have eb : backTo p₃ (starEach [e] env) = [(false, eval e env)] := by rw [he]; rfl
      rw [eb]
      refine PySem.callWith_type rfl (Calls.evalArgs_plain (Calls.spliced_cons (H.go hA S F e₁ fun v₁ h₁ tk₁ μ₁ x₁ S₁ F₁ r₁ => Calls.spliced_nil ?_)))
      cases r₁ with | int i t =>
      refine call_range_1 ?_
      have x₂ := Ext.push (O := No) h₁ μ₁ { cls := .type "range", data := .fields #[.int 0 tk₁, .int k t, .int 1 (tk₁ + 1)] }
      have S₂ := S₁.push { cls := .type "range", data := .fields #[.int 0 tk₁, .int k t, .int 1 (tk₁ + 1)] }
      refine wpAny_mono (rng_iter (s := { s with heap := h₁.push _, toks := tk₁ + 1 + 1 }) S₂ (IsRange.new ..) (by decide) hk) (fun it s' p => ?_) fun _ _ e => e
      obtain ⟨I, X, J, h', tk', μ', rfl, rfl, x₃, S₃, ok, j0, hX⟩ := p
      have hm : ∀ a, X a → a ∉ μ₁ := fun a ha => S₂.fresh (hX a ha)
      exact ⟨I, X, J, h', tk', μ', rfl, rfl, (x₁.trans x₂).trans x₃, S₃, ok, j0, fun a ha => (x₁.trans x₂).none_of (hX a ha) (hm a ha)⟩
    · cases e₂
  · cases e₂
theorem SndI.rng2 {e f : Expr} {p₂ p₃ : Pos} {a b : Cmd} (W : Wd h₀ mg mb) (hy : Str.ofString "range" ∈ sh.gs) (he : ∀ env, starEach [e, f] env = [(false, eval e env), (false, eval f env)]) (H : Snd prog w h₀ n sh e a) (H' : Snd prog w h₀ n sh f b) :
    SndI prog w h₀ n sh (.Call (.Name (Str.ofString "range") p₂) [e, f] [] p₃) false (iRng2 a b) := by
  intro A env s μ Γ σ ds σ' E hA S F hc
  simp only [iRng2, Option.bind_eq_some_iff] at hc
  obtain ⟨⟨d₁, σ₁⟩, e₁, ⟨d₂, σ₂⟩, e₂, e₃⟩ := hc
  dsimp only at e₃
  split at e₃
  · split at e₃
    · rename_i j k hk; cases e₃
      refine wpAny_Call_NameR (bltn_ W S F hy W.b_range (by decide +kernel) ?_)
      have eb : backTo p₃ (starEach [e, f] env) = [(false, eval e env), (false, eval f env)] := by rw [he]; rfl
      rw [eb]
      refine PySem.callWith_type rfl (Calls.evalArgs_plain (Calls.spliced_cons (H.go hA S F e₁ fun v₁ h₁ tk₁ μ₁ x₁ S₁ F₁ r₁ => Calls.spliced_cons (H'.go hA S₁ F₁ e₂ fun v₂ h₂ tk₂ μ₂ x₂ S₂ F₂ r₂ => Calls.spliced_nil ?_))))
      cases r₁ with | int i t =>
      cases r₂ with | int i' t' =>
      refine call_range_2 ?_
      have x₃ := Ext.push (O := No) h₂ μ₂ { cls := .type "range", data := .fields #[.int j t, .int k t', .int 1 tk₂] }
      have S₃ := S₂.push { cls := .type "range", data := .fields #[.int j t, .int k t', .int 1 tk₂] }
      refine wpAny_mono (rng_iter (s := { s with heap := h₂.push _, toks := tk₂ + 1 }) S₃ (IsRange.new ..) hk.1 hk.2) (fun it s' p => ?_) fun _ _ e => e
      obtain ⟨I, X, J, h', tk', μ', rfl, rfl, x₄, S₄, ok, j0, hX⟩ := p
      have hm : ∀ a, X a → a ∉ μ₂ := fun a ha => S₃.fresh (hX a ha)
      exact ⟨I, X, J, h', tk', μ', rfl, rfl, ((x₁.trans x₂).trans x₃).trans x₄, S₄, ok, j0, fun a ha => ((x₁.trans x₂).trans x₃).none_of (hX a ha) (hm a ha)⟩
    · cases e₃
  · cases e₃
theorem SndI.enm {e : Expr} {p₂ p₃ : Pos} {a : Cmd} (W : Wd h₀ mg mb) (hy : Str.ofString "enumerate" ∈ sh.gs) (he : ∀ env, starEach [e] env = [(false, eval e env)]) (H : Snd prog w h₀ n sh e a) :
    SndI prog w h₀ n sh (.Call (.Name (Str.ofString "enumerate") p₂) [e] [] p₃) true (iEnm a) := by
  intro A env s μ Γ σ ds σ' E hA S F hc
  simp only [iEnm, Option.bind_eq_some_iff] at hc
  obtain ⟨⟨d₁, σ₁⟩, e₁, e₂⟩ := hc
  dsimp only at e₂
  split at e₂
  · cases e₂
    refine wpAny_Call_NameR (bltn_ W S F hy W.b_enum (by decide +kernel) ?_)
    have eb : backTo p₃ (starEach [e] env) = [(false, eval e env)] := by rw [he]; rfl
    rw [eb]
    refine PySem.callWith_type rfl (Calls.evalArgs_plain (Calls.spliced_cons (H.go hA S F e₁ fun v₁ h₁ tk₁ μ₁ x₁ S₁ F₁ r₁ => Calls.spliced_nil ?_)))
    cases r₁ with | lst p m q =>
    obtain ⟨k, eo⟩ := p
    refine call_enumerate_1 eo fun h' ie il hz hk => wpAny_pyIter_enum ie ?_
    obtain ⟨S', X'⟩ := S₁.keeps (s := { s with heap := h₁, toks := tk₁ }) hk
    have hn := fresh_size h₁
    have hn2 : h₁.get? (h₁.objs.size + 1) = none := by
      cases e : h₁.get? (h₁.objs.size + 1) with
      | none => rfl
      | some o => exact absurd (Heap.lt_size e) (Nat.not_lt.mpr (Nat.le_succ _))
    exact ⟨_, _, _, h', tk₁, μ₁, rfl, rfl, x₁.trans X', S', itEnum (S₁.base_none hn) (S₁.base_none hn2), ⟨⟨_, ie⟩, il, ⟨k, hk _ _ eo⟩, m, q.ext (NoSeq.no _) X', S₁.fresh hn, S₁.fresh hn2, by simp⟩,
      fun a ha => by rcases ha with rfl | rfl; exact x₁.none_of hn2 (S₁.fresh hn2); exact x₁.none_of hn (S₁.fresh hn)⟩
  · cases e₂
theorem ItOk.nx {I : Addr} {X : Addr → Prop} {ds : List D} {en : Bool} {J : Nat → Heap → Mu → Prop} (ok : ItOk prog w h₀ I X ds en J) {A : Around} {s : Shared} {i : Nat} {μ : Mu} {σ : Sto} {d : D} {tgt : Expr} {E : Value → Shared → Prop}
    (hA : A.handled = none) (S : St h₀ s.heap μ σ) (j : J i s.heap μ) (hd : ds[i]? = some d) (ht : en = true → ∃ es k p, tgt = Expr.Tuple es k p) :
    wpAny (model prog w) A (pyNext (.ref I)) (fun r s₁ => ∃ v, r = some v ∧ wpAny (model prog w) A (letOwnedTupleGo tgt (.ref I) v)
      (fun _ s₂ => PostN h₀ s μ σ X (J (i + 1)) d v s₂) E s₁) E s :=
  ok.next A s i μ σ d tgt (fun v s₂ => PostN h₀ s μ σ X (J (i + 1)) d v s₂) E hA S j hd ht
    fun v h₃ tk₃ a b c e => ⟨h₃, tk₃, rfl, a, b, c, e⟩
theorem ItOk.dn {I : Addr} {X : Addr → Prop} {ds : List D} {en : Bool} {J : Nat → Heap → Mu → Prop} (ok : ItOk prog w h₀ I X ds en J) {A : Around} {s : Shared} {i : Nat} {μ : Mu} {σ : Sto} {E : Value → Shared → Prop}
    (hA : A.handled = none) (S : St h₀ s.heap μ σ) (j : J i s.heap μ) (hd : ds[i]? = none) :
    wpAny (model prog w) A (pyNext (.ref I)) (fun r s₁ => r = none ∧ PostD h₀ s μ σ X s₁) E s :=
  ok.done A s i μ σ (fun s₁ => PostD h₀ s μ σ X s₁) E hA S j hd fun h₃ a b => ⟨h₃, rfl, a, b⟩
theorem Own.dc {env h μ Γ} (F : Fm h₀ sh env h μ Γ) : DC (Own sh env) h := F.dc
/-- from one loop state to the next: own names and the iterator's objects may change -/
theorem SndS.for_ {tgt iter : Expr} {b : List Stmt} {pos : Pos} {en : Bool} {c : ICmd} {t : TCmd} {d : SCmd} (hs : ∀ env x, foldedSetIterable iter env x = pure x) (hen : en = true → ∃ es k p, tgt = Expr.Tuple es k p)
    (H : SndI prog w h₀ n sh iter en c) (HT : SndT prog w h₀ n sh tgt t) (Hb : SndB prog w h₀ n sh b d) : SndS prog w h₀ n sh (.For tgt iter b [] pos) (sFor c t d) := by
  intro A env s μ Γ σ fl Γ' σ' E hA S F hc
  simp only [sFor, Option.bind_eq_some_iff] at hc
  obtain ⟨⟨ds, σ₁⟩, e₁, e₂⟩ := hc
  dsimp only at e₂
  refine wpAny_For (wpAny_mono (H A env s μ Γ σ ds σ₁ E hA S F e₁) (fun x s₁ hx => wpAny_mono hx (fun it s₂ p => ?_) fun _ _ e => e) fun _ _ e => e) (hs env)
  obtain ⟨I, X, J, h₁, tk₁, μ₁, rfl, rfl, x₁, S₁, ok, j0, hX⟩ := p
  have F₁ := F.ext S (Flds.no _) x₁
  have hown : ∀ a, Own sh env a → ¬ X a := fun a ha hx => by
    have h1 := hX a hx
    rcases ha with rfl | ⟨y, hy, hl⟩
    · obtain ⟨m, ⟨o, _, _, e, _⟩, _⟩ := F.var; rw [h1] at e; cases e
    · obtain ⟨ov, o, e, _⟩ := F.cel y a hl; rw [h1] at e; cases e
  refine codeAny_forLoop_any (ForInv h₀ sh env X J t d ds fl Γ' σ' s μ) ?_ (ds.length + 1)
    ⟨0, h₁, tk₁, μ₁, Γ, σ₁, rfl, Nat.zero_le _, rfl, x₁.of, S₁, F₁, j0, by simpa using e₂⟩
  have fin : ∀ {h₂ μ₂}, Ext (fun a => Own sh env a ∨ X a) s.heap μ h₂ μ₂ → Ext (Own sh env) s.heap μ h₂ μ₂ := fun x =>
    ⟨fun b o e hb hn => x.keep b o e hb fun q => q.elim hn fun q => (by rw [hX b q] at e; cases e),
      let ⟨ν, e, hν⟩ := x.pre; ⟨ν, e, fun a ha => ⟨(hν a ha).1, (hν a ha).2.elim .inl fun q => q.elim .inr fun q => .inl (hX a q)⟩⟩⟩
  rintro k s' ⟨i, h₂, tk₂, μ₂, Γ₂, σ₂, rfl, hi, rfl, x₂, S₂, F₂, j₂, hc₂⟩
  cases hd : ds[i]? with
  | none =>
    have hdrop : ds.drop i = [] := List.drop_eq_nil_of_le (List.getElem?_eq_none_iff.mp hd)
    rw [hdrop] at hc₂; cases hc₂
    refine wpAny_mono (ok.dn (s := { s with heap := h₂, toks := tk₂ }) hA.1 S₂ j₂ hd) (fun r s₁ q => ?_) fun _ _ e => e
    obtain ⟨rfl, h₃, rfl, x₃, S₃⟩ := q
    exact wpAny_execs_nil ⟨h₃, tk₂, μ₂, rfl, fin (x₂.trans (x₃.mono fun a ha => .inr ha)), S₃, F₂.ext S₂ (ok.flds _ _ _ j₂) x₃, rfl⟩
  | some dd =>
    have hlt : i < ds.length := (List.getElem?_eq_some_iff.mp hd).1
    have hdrop : ds.drop i = dd :: ds.drop (i + 1) := by
      rw [List.drop_eq_getElem_cons hlt]; congr 1; exact (List.getElem?_eq_some_iff.mp hd).2
    rw [hdrop] at hc₂
    simp only [forL, Option.bind_eq_some_iff] at hc₂
    obtain ⟨⟨Γ₃, σ₃⟩, e₃, ⟨fl₄, Γ₄, σ₄⟩, e₄, e₅⟩ := hc₂
    refine wpAny_mono (ok.nx (s := { s with heap := h₂, toks := tk₂ }) (tgt := tgt) hA.1 S₂ j₂ hd hen) (fun r s₁ q => ?_) fun _ _ e => e
    obtain ⟨v, rfl, q⟩ := q
    refine wpAny_mono q (fun _ s₃ q => ?_) fun _ _ e => e
    obtain ⟨h₃, tk₃, rfl, j₃, x₃, S₃, r₃⟩ := q
    have F₃ := F₂.ext S₂ (ok.flds _ _ _ j₂) x₃
    refine HT.go (s := { s with heap := h₃, toks := tk₃ }) hA S₃ F₃ r₃ e₃ fun h₄ tk₄ μ₄ x₄ S₄ F₄ => ?_
    have j₄ := ok.stab _ _ _ _ _ _ j₃ F₃.dc x₄.w
    refine wpAny_mono (Hb A env { s with heap := h₄, toks := tk₄ } μ₄ Γ₃ σ₃ fl₄ Γ₄ σ₄ _ hA S₄ F₄ e₄) (fun f s' p => ?_) fun _ _ e => e
    obtain ⟨h₅, tk₅, μ₅, rfl, x₅, S₅, F₅, hf⟩ := p
    have j₅ := ok.stab _ _ _ _ _ _ j₄ F₄.dc x₅.w
    have x25 : Ext (fun a => Own sh env a ∨ X a) s.heap μ h₅ μ₅ := x₂.trans ((x₃.mono fun a ha => .inr ha).trans ((x₄.trans x₅).mono fun a ha => .inl ha))
    cases fl₄ with
    | next => cases hf; exact ⟨ds.length - i, by omega, i + 1, h₅, tk₅, μ₅, Γ₄, σ₄, by omega, by omega, rfl, x25, S₅, F₅, j₅, e₅⟩
    | cont => cases hf; exact ⟨ds.length - i, by omega, i + 1, h₅, tk₅, μ₅, Γ₄, σ₄, by omega, by omega, rfl, x25, S₅, F₅, j₅, e₅⟩
    | brk => cases hf; cases e₅; exact ⟨h₅, tk₅, μ₅, rfl, fin x25, S₅, F₅, rfl⟩
    | ret d => obtain ⟨v, rfl, hv⟩ := hf; cases e₅; exact ⟨h₅, tk₅, μ₅, rfl, fin x25, S₅, F₅, v, rfl, hv⟩
end
end Mine
-- F10
namespace Mine
open PySem PySem.W PyProof.Rows
noncomputable abbrev FCmd := Gam → Sto → Option (List D × Gam × Sto)
noncomputable def compLL (t : TCmd) (f : FCmd) : List D → FCmd
  | [], Γ, σ => some ([], Γ, σ)
  | d :: ds, Γ, σ => (t d Γ σ).bind fun p => (f p.1 p.2).bind fun q => (compLL t f ds q.2.1 q.2.2).map fun r => (q.1 ++ r.1, r.2)
noncomputable def fElt (a : Cmd) : FCmd := fun Γ σ => (a Γ σ).map fun p => ([p.1], Γ, p.2)
noncomputable def fIf (q : QCmd) (a : Cmd) : FCmd := fun Γ σ => (q Γ σ).bind fun b => if b.1 then (a Γ b.2).map fun p => ([p.1], Γ, p.2) else some ([], Γ, b.2)
noncomputable def fIn (c : ICmd) (t : TCmd) (f : FCmd) : FCmd := fun Γ σ => (c Γ σ).bind fun p => compLL t f p.1 Γ p.2
-- the closure's cells
noncomputable def clo (cells : List (Str × Addr)) : List (Str × NameKind) → List (Str × Addr) → List (Str × Addr)
  | [], acc => acc
  | (x, k) :: r, acc => clo cells r (if k == .free then (x, (cells.lookup x).getD 0) :: acc else acc)
section
variable {M : Model} {A : Around} {E : Value → Shared → Prop} {s : Shared}
theorem forIn_clo {env : Env} (f : Str × NameKind → List (Str × Addr) → Sem (ForInStep (List (Str × Addr))))
    (hf : ∀ n k cs, f (n, k) cs = if k == .free then (do let a ← cellOf env n; pure (.yield ((n, a) :: cs))) else pure (.yield cs)) :
    ∀ (names : List (Str × NameKind)) (acc : List (Str × Addr)), (∀ p ∈ names, p.2 = .free → ∃ c, env.cells.lookup p.1 = some c) → forIn names acc f = pure (clo env.cells names acc)
  | [], acc, _ => by rw [List.forIn_nil]; rfl
  | (n, k) :: r, acc, h => by
    rw [List.forIn_cons, hf]
    have ih := forIn_clo f hf r
    by_cases hk : (k == NameKind.free) = true
    · obtain ⟨c, hc⟩ := h (n, k) (.head _) (by simpa using hk)
      rw [if_pos hk]
      unfold cellOf clo
      rw [hc, if_pos hk]
      simp only [pure_bind, Option.getD_some]
      exact ih _ fun p hp => h p (.tail _ hp)
    · rw [if_neg hk, pure_bind]
      unfold clo
      rw [if_neg hk]
      exact ih _ fun p hp => h p (.tail _ hp)
theorem closureFor_clo {scope : Scope} {env : Env} (h : ∀ p ∈ scope.names, p.2 = .free → ∃ c, env.cells.lookup p.1 = some c) : closureFor scope env = pure (clo env.cells scope.names []) := by
  simp only [closureFor]
  rw [forIn_clo (env := env) _ (fun n k cs => by cases hk : k == NameKind.free <;> simp [hk]) scope.names [] h]
  rfl
end
theorem clo_sub {cells : List (Str × Addr)} : ∀ (names : List (Str × NameKind)) (acc : List (Str × Addr)), (∀ p ∈ names, p.2 = .free → ∃ c, cells.lookup p.1 = some c) →
    (∀ x c, acc.lookup x = some c → cells.lookup x = some c) → ∀ x c, (clo cells names acc).lookup x = some c → cells.lookup x = some c
  | [], acc, _, h, x, c, e => h x c e
  | (n, k) :: r, acc, hx, h, x, c, e => by
    unfold clo at e
    refine clo_sub r _ (fun p hp => hx p (.tail _ hp)) (fun y c' e' => ?_) x c e
    split at e'
    · rename_i hk
      obtain ⟨cc, hcc⟩ := hx (n, k) (.head _) (by simpa using hk)
      rw [List.lookup_cons] at e'
      cases hy : y == n with
      | true =>
        rw [hy] at e'; simp only [Option.some.injEq] at e'
        dsimp only at hcc
        rw [hcc] at e'; simp at e'
        rw [beq_iff_eq.mp hy, hcc, e']
      | false => rw [hy] at e'; exact h y c' e'
    · exact h y c' e'
theorem clo_has {cells : List (Str × Addr)} : ∀ (names : List (Str × NameKind)) (acc : List (Str × Addr)) (x : Str), ((x, NameKind.free) ∈ names ∨ ∃ c, acc.lookup x = some c) → ∃ c, (clo cells names acc).lookup x = some c
  | [], acc, x, h => by rcases h with h | h; exact nomatch h; exact h
  | (n, k) :: r, acc, x, h => by
    unfold clo
    refine clo_has r _ x ?_
    rcases h with h | ⟨c, h⟩
    · rcases List.mem_cons.mp h with q | q
      · cases q
        right
        exact ⟨_, by rw [if_pos (by rfl), List.lookup_cons]; simp; rfl⟩
      · exact .inl q
    · right
      split
      · rw [List.lookup_cons]
        cases x == n
        · exact ⟨c, h⟩
        · exact ⟨_, rfl⟩
      · exact ⟨c, h⟩
structure CI (h : Heap) (acc : List (Str × Addr)) : Prop where
  cel : ∀ x c, acc.lookup x = some c → ∃ ov, h.IsCell c ov
  inj : ∀ x y c, acc.lookup x = some c → acc.lookup y = some c → x = y
theorem CI.push {h : Heap} {acc : List (Str × Addr)} (q : CI h acc) (n : Str) : CI (h.push { cls := .type "cell", data := .cell none }) ((n, h.objs.size) :: acc) := by
  refine ⟨fun x c e => ?_, fun x y c ex ey => ?_⟩
  · rw [List.lookup_cons] at e
    cases hx : x == n with
    | true => rw [hx] at e; cases e; exact ⟨none, _, Heap.get?_push_size _ rfl, rfl⟩
    | false => rw [hx] at e; obtain ⟨ov, o, ho, hd⟩ := q.cel x c e; exact ⟨ov, o, Heap.get?_push_of_some _ ho, hd⟩
  · have lt : ∀ x c, acc.lookup x = some c → c ≠ h.objs.size := fun x c e => by
      obtain ⟨ov, o, ho, hd⟩ := q.cel x c e; exact Nat.ne_of_lt (Heap.lt_size ho)
    rw [List.lookup_cons] at ex ey
    cases hx : x == n with
    | true =>
      rw [hx] at ex; cases ex
      cases hy : y == n with
      | true => rw [beq_iff_eq.mp hx, beq_iff_eq.mp hy]
      | false => rw [hy] at ey; exact absurd rfl (lt _ _ ey)
    | false =>
      rw [hx] at ex
      cases hy : y == n with
      | true => rw [hy] at ey; cases ey; exact absurd rfl (lt _ _ ex)
      | false => rw [hy] at ey; exact q.inj x y c ex ey
theorem CI.from : ∀ (names : List (Str × NameKind)) (h : Heap) (acc : List (Str × Addr)), CI h acc → CI (pushCells h names) (cellsFrom h.objs.size names acc)
  | [], _, _, q => q
  | (n, k) :: r, h, acc, q => by
    unfold pushCells cellsFrom
    split
    · have := CI.from r _ _ (q.push n)
      rwa [Heap.size_push] at this
    · exact CI.from r h acc q
theorem cf_other {x : Str} : ∀ (names : List (Str × NameKind)) (n : Nat) (acc : List (Str × Addr)), (∀ p ∈ names, p.2 = .cell → p.1 ≠ x) → (cellsFrom n names acc).lookup x = acc.lookup x
  | [], _, _, _ => rfl
  | (y, k) :: r, n, acc, h => by
    unfold cellsFrom
    split
    · rename_i hk
      rw [cf_other r _ _ fun p hp => h p (.tail _ hp), List.lookup_cons]
      have := h (y, k) (.head _) (by simpa using hk)
      rw [show (x == y) = false from by simpa using fun e : x = y => this e.symm]
    · exact cf_other r _ _ fun p hp => h p (.tail _ hp)
theorem cf_own {x : Str} : ∀ (names : List (Str × NameKind)) (n : Nat) (acc : List (Str × Addr)), (names.map (·.1)).Nodup → (x, NameKind.cell) ∈ names → ∃ c, (cellsFrom n names acc).lookup x = some c ∧ n ≤ c
  | [], _, _, _, h => nomatch h
  | (y, k) :: r, n, acc, hn, h => by
    rw [List.map_cons, List.nodup_cons] at hn
    unfold cellsFrom
    rcases List.mem_cons.mp h with q | q
    · cases q
      rw [if_pos (by rfl), cf_other r _ _ fun p hp hk e => hn.1 (List.mem_map.mpr ⟨p, hp, e⟩), List.lookup_cons]
      simp
    · split
      · obtain ⟨c, hc, hle⟩ := cf_own r (n + 1) ((y, n) :: acc) hn.2 q
        exact ⟨c, hc, by omega⟩
      · exact cf_own r n acc hn.2 q
theorem relabel_lookup {scope : Scope} {env : Env} {x : Str} : (relabel scope env).names.lookup x = (scope.names.lookup x).map fun k => if (k == .free && env.scope.kind == .function && env.kindOf x == some .cell) then .cell else k := by
  unfold relabel
  dsimp only
  induction scope.names with
  | nil => rfl
  | cons p r ih =>
    obtain ⟨n, k⟩ := p
    rw [List.map_cons]
    by_cases hc : (k == NameKind.free && env.scope.kind == .function && env.kindOf n == some .cell) = true
    · rw [if_pos hc, List.lookup_cons, List.lookup_cons]
      cases hx : x == n with
      | true => rw [beq_iff_eq.mp hx]; exact congrArg some (if_pos hc).symm
      | false => exact ih
    · rw [if_neg hc, List.lookup_cons, List.lookup_cons]
      cases hx : x == n with
      | true => rw [beq_iff_eq.mp hx]; exact congrArg some (if_neg hc).symm
      | false => exact ih
/-- what a comprehension's scope must be, beside the frame's shape -/
structure CompOk (sh sh' : Sh) (scope : Scope) (mp : List (Option Nat)) : Prop where
  kind : scope.kind = .function
  nd : (scope.names.map (·.1)).Nodup
  free : ∀ p ∈ scope.names, p.2 = .free → p.1 ∈ sh.cs
  gs : ∀ x ∈ sh'.gs, scope.names.lookup x = some .globalImplicit
  ls : ∀ x ∈ sh'.ls, scope.names.lookup x = some .local
  cw : ∀ x ∈ sh'.cw, scope.names.lookup x = some .cell
  cs : ∀ x ∈ sh'.cs, scope.names.lookup x = some .cell ∨ scope.names.lookup x = some .free
  nds : sh'.ns.Nodup
  loc : ∀ x ∈ scope.names, x.2 = .local → scope.names.lookup x.1 = some .local
  mp : ∀ (i j : Nat) (x : Str), sh'.ns[i]? = some x → mp[i]? = some (some j) → sh.ns[j]? = some x ∧ scope.names.lookup x = some .free ∧ x ∈ sh.cs
noncomputable def compOk (sh sh' : Sh) (scope : Scope) (mp : List (Option Nat)) : Bool :=
  scope.kind == .function && decide ((scope.names.map (·.1)).Nodup) && (scope.names.all fun p => p.2 != .free || sh.cs.contains p.1) && (sh'.gs.all fun x => scope.names.lookup x == some .globalImplicit) &&
  (sh'.ls.all fun x => scope.names.lookup x == some .local) && (sh'.cw.all fun x => scope.names.lookup x == some .cell) && (sh'.cs.all fun x => scope.names.lookup x == some .cell || scope.names.lookup x == some .free) &&
  decide sh'.ns.Nodup && (scope.names.all fun p => p.2 != .local || scope.names.lookup p.1 == some .local) &&
  ((sh'.ns.zip mp).all fun p => match p.2 with | some j => sh.ns[j]? == some p.1 && scope.names.lookup p.1 == some .free && sh.cs.contains p.1 | none => true)
theorem CompOk.of {sh sh' scope mp} (h : compOk sh sh' scope mp = true) : CompOk sh sh' scope mp := by
  simp only [compOk, Bool.and_eq_true, beq_iff_eq, decide_eq_true_eq, List.all_eq_true, Bool.or_eq_true, bne_iff_ne, List.contains_iff_mem] at h
  obtain ⟨⟨⟨⟨⟨⟨⟨⟨⟨h1, h2⟩, h3⟩, h4⟩, h5⟩, h6⟩, h7⟩, h8⟩, h9⟩, h10⟩ := h
  refine ⟨h1, h2, fun p hp hk => (h3 p hp).elim (fun q => absurd hk q) id, h4, h5, h6, h7, h8, fun p hp hk => (h9 p hp).elim (fun q => absurd hk q) id, fun i j x e1 e2 => ?_⟩
  have hz : (sh'.ns.zip mp)[i]? = some (x, some j) := by
    rw [List.getElem?_zip_eq_some]; exact ⟨e1, e2⟩
  have := h10 _ (List.mem_of_getElem? hz)
  simp only [Bool.and_eq_true, beq_iff_eq, List.contains_iff_mem] at this
  exact ⟨this.1.1, this.1.2, this.2⟩
theorem lookup_mem {x : Str} {k : NameKind} : ∀ {l : List (Str × NameKind)}, l.lookup x = some k → (x, k) ∈ l := fun h => mem_of_lookup h
noncomputable def gamOf (mp : List (Option Nat)) (Γ : Gam) : Gam := mp.map fun o => o.bind fun j => (Γ[j]?).join
section
variable {h₀ : Heap} {sh sh' : Sh} {env : Env} {μ : Mu} {σ : Sto} {Γ : Gam}
theorem St.reserve {h h' : Heap} {D : Addr} (S : St h₀ h μ σ) (hD : h.get? D = none) (K : ∀ b o, h.get? b = some o → h'.get? b = some o) (ho : ∃ o xs n, h'.get? D = some o ∧ o.data = .seq xs n) : St h₀ h' ⟨μ.l, D :: μ.r⟩ σ := by
  refine ⟨fun b o e => K _ _ (S.base b o e), S.len, S.nd, fun a ha => ?_, fun k a e => ?_, fun a ha => ?_, fun a ha hm => ?_⟩
  · rcases ha with ha | ha
    · exact S.lo a (.inl ha)
    · rcases List.mem_cons.mp ha with rfl | ha
      · exact S.base_none hD
      · exact S.lo a (.inr ha)
  · obtain ⟨l, vs, hl, ⟨n, e'⟩, r⟩ := S.at_ k a e
    exact ⟨l, vs, hl, ⟨n, K _ _ e'⟩, r.reserve hD K⟩
  · rcases List.mem_cons.mp ha with rfl | ha
    · exact ho
    · obtain ⟨o, xs, n, e, hd⟩ := S.res a ha; exact ⟨o, xs, n, K _ _ e, hd⟩
  · rcases List.mem_cons.mp ha with rfl | ha
    · exact S.fresh hD (.inl hm)
    · exact S.sep a ha hm
theorem comp_own {h : Heap} {C : Addr} {scope : Scope} {mp : List (Option Nat)} (ok : CompOk sh sh' scope mp) (F : Fm h₀ sh env h μ Γ) {n : Nat} (hC0 : h.get? C = none) (hn : ∀ a, n ≤ a → h.get? a = none) :
    ∀ a, Own sh' (compEnvC scope (cellsFrom n scope.names (clo env.cells scope.names [])) C env) a → h.get? a = none := by
  have uniq : ∀ {x k k'}, scope.names.lookup x = some k → (x, k') ∈ scope.names → k' = k := fun {x k k'} e hm => by
    have h1 := lookup_mem e
    obtain ⟨i, hi⟩ := List.mem_iff_getElem?.mp h1
    obtain ⟨j, hj⟩ := List.mem_iff_getElem?.mp hm
    have hi' : (scope.names.map (·.1))[i]? = some x := by rw [List.getElem?_map, hi]; rfl
    have hj' : (scope.names.map (·.1))[j]? = some x := by rw [List.getElem?_map, hj]; rfl
    have := nodup_idx ok.nd hi' hj'
    subst this
    rw [hi] at hj; cases hj; rfl
  rintro a (rfl | ⟨x, hx, hl⟩)
  · exact hC0
  · rcases List.mem_append.mp hx with hx | hx
    · exfalso
      have e := ok.ls x hx
      have hl : (cellsFrom n scope.names (clo env.cells scope.names [])).lookup x = some a := hl
      rw [cf_other _ _ _ fun p hp hk he => by
        have := uniq (k' := p.2) e (by rw [← he]; exact hp)
        rw [hk] at this; cases this] at hl
      have : ∀ (names : List (Str × NameKind)) (acc : List (Str × Addr)) (a : Addr), (clo env.cells names acc).lookup x = some a → (x, NameKind.free) ∈ names ∨ acc.lookup x = some a := by
        intro names
        induction names with
        | nil => intro acc a h; exact .inr h
        | cons p r ih =>
          obtain ⟨y, k⟩ := p
          intro acc a h
          unfold clo at h
          rcases ih _ _ h with q | q
          · exact .inl (.tail _ q)
          · split at q
            · rename_i hk
              rw [List.lookup_cons] at q
              cases hxy : x == y with
              | true => left; rw [beq_iff_eq.mp hxy, show k = .free by simpa using hk]; exact .head _
              | false => rw [hxy] at q; exact .inr q
            · exact .inr q
      rcases this _ _ _ hl with q | q
      · have := uniq e q; cases this
      · cases q
    · have e := ok.cw x hx
      obtain ⟨c, hc, hle⟩ := cf_own (x := x) scope.names n (clo env.cells scope.names []) ok.nd (lookup_mem e)
      have hl : (cellsFrom n scope.names (clo env.cells scope.names [])).lookup x = some a := hl
      rw [hc] at hl; cases hl
      exact hn _ hle
/-- the block's frame -/
theorem Fm.comp {h h' : Heap} {D C : Addr} {scope : Scope} {mp : List (Option Nat)} (ok : CompOk sh sh' scope mp) (F : Fm h₀ sh env h μ Γ) (S : St h₀ h μ σ) (hD : h.get? D = none) (K : ∀ b o, h.get? b = some o → h'.get? b = some o)
    {n : Nat} (hC : h'.Ns C fun _ => none) (hC0 : h.get? C = none) (hn : ∀ a, n ≤ a → h.get? a = none) (hci : CI h' (cellsFrom n scope.names (clo env.cells scope.names []))) :
    Fm h₀ sh' (compEnvC scope (cellsFrom n scope.names (clo env.cells scope.names [])) C env) h' ⟨μ.l, D :: μ.r⟩ (gamOf mp Γ) := by
  have hfree : ∀ p ∈ scope.names, p.2 = .free → ∃ c, env.cells.lookup p.1 = some c := fun p hp hk => (F.cs _ (ok.free p hp hk)).2
  have kd : ∀ x k, scope.names.lookup x = some k → (compEnvC scope (cellsFrom n scope.names (clo env.cells scope.names [])) C env).kindOf x = some (if (k == .free && env.scope.kind == .function && env.kindOf x == some .cell) then .cell else k) := fun x k e => by
    show (relabel scope env).names.lookup x = _
    rw [relabel_lookup, e]; rfl
  have uniq : ∀ {x k k'}, scope.names.lookup x = some k → (x, k') ∈ scope.names → k' = k := fun {x k k'} e hm => by
    have h1 := lookup_mem e
    obtain ⟨i, hi⟩ := List.mem_iff_getElem?.mp h1
    obtain ⟨j, hj⟩ := List.mem_iff_getElem?.mp hm
    have hi' : (scope.names.map (·.1))[i]? = some x := by rw [List.getElem?_map, hi]; rfl
    have hj' : (scope.names.map (·.1))[j]? = some x := by rw [List.getElem?_map, hj]; rfl
    have := nodup_idx ok.nd hi' hj'
    subst this
    rw [hi] at hj; cases hj; rfl
  have freeCell : ∀ x c, scope.names.lookup x = some .free → env.cells.lookup x = some c → (cellsFrom n scope.names (clo env.cells scope.names [])).lookup x = some c := fun x c e hc => by
    rw [cf_other _ _ _ fun p hp hk he => by
      have := uniq (k' := p.2) e (by rw [← he]; exact hp)
      rw [hk] at this; cases this]
    obtain ⟨c', hc'⟩ := clo_has (cells := env.cells) scope.names [] x (.inl (lookup_mem e))
    have := clo_sub scope.names [] hfree (fun _ _ e => by cases e) x c' hc'
    rw [hc] at this; cases this; exact hc'
  refine ⟨?_, ?_, F.glob, F.bi, fun x hx => ?_, ok.nds, fun x hx => ?_, fun x hx => ?_, fun x hx => ?_, hci.cel, hci.inj, _, hC, fun i x d e1 e2 => ?_⟩
  · exact fun a ha => S.base_none (comp_own ok F hC0 hn a ha)
  · exact ok.kind
  · rw [kd x _ (ok.gs x hx)]; rfl
  · rw [kd x _ (ok.ls x hx)]; rfl
  · refine ⟨by rw [kd x _ (ok.cw x hx)]; rfl, ?_⟩
    obtain ⟨c, hc, _⟩ := cf_own (x := x) scope.names n (clo env.cells scope.names []) ok.nd (lookup_mem (ok.cw x hx))
    exact ⟨c, hc⟩
  · rcases ok.cs x hx with e | e
    · refine ⟨.inl (by rw [kd x _ e]; rfl), ?_⟩
      obtain ⟨c, hc, _⟩ := cf_own (x := x) scope.names n (clo env.cells scope.names []) ok.nd (lookup_mem e)
      exact ⟨c, hc⟩
    · refine ⟨?_, ?_⟩
      · rw [kd x _ e]
        split
        · exact .inl rfl
        · exact .inr rfl
      · obtain ⟨c, hc⟩ := hfree _ (lookup_mem e) rfl
        exact ⟨c, freeCell x c e hc⟩
  · simp only [gamOf, List.getElem?_map, Option.map_eq_some_iff] at e2
    obtain ⟨o, ho, e3⟩ := e2
    cases o with
    | none => cases e3
    | some j =>
      simp only [Option.bind_some] at e3
      obtain ⟨m1, m2, m3⟩ := ok.mp i j x e1 ho
      have e4 : Γ[j]? = some (some d) := by
        cases hj : Γ[j]? with
        | none => rw [hj] at e3; cases e3
        | some q => rw [hj] at e3; simp at e3; rw [e3]
      obtain ⟨m, hm, hv⟩ := F.var
      obtain ⟨v, r, hk⟩ := hv j x d m1 e4
      obtain ⟨hkc, _⟩ := F.cs x m3
      refine ⟨v, r.reserve hD K, .inr ⟨?_, ?_⟩⟩
      · rw [kd x _ m2]
        split
        · exact .inl rfl
        · exact .inr rfl
      · rcases hk with ⟨q, _⟩ | ⟨_, c, hc, hcv⟩
        · rcases hkc with hkc | hkc <;> (rw [q] at hkc; cases hkc)
        · obtain ⟨o, ho', hd⟩ := hcv
          exact ⟨c, freeCell x c m2 hc, o, K _ _ ho', hd⟩
end
end Mine
-- F11
namespace Mine
open PySem PySem.W PyProof.Rows
inductive PostB (h₀ : Heap) (sh : Sh) (env : Env) (X : Addr → Prop) (acc : Addr) (s : Shared) (μ : Mu) (es : List D) (Γ' : Gam) (σ' : Sto) (s' : Shared) : Prop
  | mk (h' : Heap) (tk' : Nat) (μ' : Mu) (ws : List Value) (e : s' = { s with heap := h', toks := tk' }) (x : Ext (fun b => Own sh env b ∨ X b ∨ b = acc) s.heap μ h' μ') (S : St h₀ h' μ' σ') (F : Fm h₀ sh env h' μ' Γ') (p : h'.PlainList acc ws.toArray) (r : RepL h' μ' ws es) :
      PostB h₀ sh env X acc s μ es Γ' σ' s'
inductive LoopInv (h₀ : Heap) (sh : Sh) (env : Env) (X : Addr → Prop) (acc : Addr) (J : Nat → Heap → Mu → Prop) (t : TCmd) (f : FCmd) (ds es : List D) (Γ' : Gam) (σ' : Sto) (s : Shared) (μ : Mu) (k : Nat) (s' : Shared) : Prop
  | mk (i : Nat) (h₂ : Heap) (tk₂ : Nat) (μ₂ : Mu) (Γ₂ : Gam) (σ₂ : Sto) (ws₂ : List Value) (es₂ rest : List D) (ek : k = ds.length + 1 - i) (hi : i ≤ ds.length) (e : s' = { s with heap := h₂, toks := tk₂ }) (x : Ext (fun b => Own sh env b ∨ X b ∨ b = acc) s.heap μ h₂ μ₂) (S : St h₀ h₂ μ₂ σ₂)
      (F : Fm h₀ sh env h₂ μ₂ Γ₂) (j : J i h₂ μ₂) (p : h₂.PlainList acc ws₂.toArray) (r : RepL h₂ μ₂ ws₂ es₂) (ee : es₂ ++ rest = es) (hc : compLL t f (ds.drop i) Γ₂ σ₂ = some (rest, Γ', σ')) : LoopInv h₀ sh env X acc J t f ds es Γ' σ' s μ k s'
section
variable (prog : Program) (w : World) (h₀ : Heap)
/-- a body that appends what f yields to the list acc -/
noncomputable def BodyOk (n : Nat) (sh : Sh) (env : Env) (acc : Addr) (B : Around → (Shared → Prop) → (Value → Shared → Prop) → Shared → Prop) (f : FCmd) : Prop :=
  ∀ A s μ Γ σ ws es es' Γ' σ' E (Q : Shared → Prop), Room n A → St h₀ s.heap μ σ → acc ∈ μ.r → Fm h₀ sh env s.heap μ Γ → s.heap.PlainList acc ws.toArray → RepL s.heap μ ws es → es.length + es'.length ≤ 1000000 →
    f Γ σ = some (es', Γ', σ') → (∀ s', PostB h₀ sh env No acc s μ (es ++ es') Γ' σ' s' → Q s') → B A Q E s
end
section
variable {prog : Program} {w : World} {h₀ : Heap} {n : Nat} {sh : Sh} {mg mb : Str → Option Value}
theorem acc_r {O : Addr → Prop} {h μ h' μ'} (x : Ext O h μ h' μ') {a : Addr} (ha : a ∈ μ.r) : a ∈ μ'.r := by obtain ⟨ν, rfl, _⟩ := x.pre; exact ha
theorem acc_not_own {env : Env} {h : Heap} {μ : Mu} {σ : Sto} {Γ : Gam} {acc : Addr} (S : St h₀ h μ σ) (F : Fm h₀ sh env h μ Γ) (ha : acc ∈ μ.r) : ¬ Own sh env acc := fun q => by
  obtain ⟨o, xs, m, e, hd⟩ := S.res acc ha
  rcases F.dc acc o q e with ⟨_, _, hv⟩ | ⟨_, hv⟩ <;> (rw [hd] at hv; cases hv)
theorem compLoop_ok {elt : Expr} {gens : List Comprehension} {scope : Scope} {pos : Pos} {dep : Nat} {tgt : Expr} {env : Env} {acc I : Addr} {X : Addr → Prop} {ds : List D} {en : Bool} {J : Nat → Heap → Mu → Prop}
    {B : Around → (Shared → Prop) → (Value → Shared → Prop) → Shared → Prop} {t : TCmd} {f : FCmd}
    (turn : ∀ A E (Q : Fin → Shared → Prop) s, wpAny (model prog w) A (pyNext (.ref I)) (fun r s₁ => match r with
        | none => Q (.done .next) s₁
        | some v => wpAny (model prog w) A (letOwnedTupleGo tgt (.ref I) v) (fun _ s₂ => wpAny (model prog w) A (assign tgt env v) (fun _ s₃ => B A (fun s₄ => Q (.again (.compLoop (.ListComp elt gens scope pos) dep (.ref I) (.ref acc) env)) s₄) E s₃) E s₂) E s₁) E s →
      wpAny (model prog w) A (compTurn (.ListComp elt gens scope pos) dep (.ref I) (.ref acc) env) Q E s)
    (ok : ItOk prog w h₀ I X ds en J) (hen : en = true → ∃ es k p, tgt = Expr.Tuple es k p) (HT : SndT prog w h₀ n sh tgt t) (HB : BodyOk h₀ n sh env acc B f)
    {A : Around} {s : Shared} {μ : Mu} {Γ : Gam} {σ : Sto} {ws : List Value} {es es' : List D} {Γ' : Gam} {σ' : Sto} {R : Result → Shared → Prop} (hA : Room n A) (S : St h₀ s.heap μ σ) (ha : acc ∈ μ.r) (F : Fm h₀ sh env s.heap μ Γ)
    (hp : s.heap.PlainList acc ws.toArray) (r : RepL s.heap μ ws es) (hl : es.length + es'.length ≤ 1000000) (j0 : J 0 s.heap μ) (hc : compLL t f ds Γ σ = some (es', Γ', σ'))
    (hX : ∀ a, X a → a ∉ μ)
    (k : ∀ s', PostB h₀ sh env X acc s μ (es ++ es') Γ' σ' s' → R (.ok .next) s') :
    codeAny (model prog w) A (.compLoop (.ListComp elt gens scope pos) dep (.ref I) (.ref acc) env) R s := by
  refine codeAny_loop rfl (LoopInv h₀ sh env X acc J t f ds (es ++ es') Γ' σ' s μ) ?_ (ds.length + 1)
    ⟨0, s.heap, s.toks, μ, Γ, σ, ws, es, es', rfl, Nat.zero_le _, rfl, Ext.refl .., S, F, j0, hp, r, rfl, by simpa using hc⟩
  rintro k' s' ⟨i, h₂, tk₂, μ₂, Γ₂, σ₂, ws₂, es₂, rest, rfl, hi, rfl, x₂, S₂, F₂, j₂, hp₂, r₂, hes, hc₂⟩
  have ha₂ := acc_r x₂ ha
  show wpAny _ A ((compTurn (.ListComp elt gens scope pos) dep (.ref I) (.ref acc) env).onRaise (fun x => do noteFrame x env; theTreesLotGoes x)) _ _ _
  refine wpAny_noted (turn _ _ _ _ ?_)
  have accX : ¬ X acc := fun q => hX acc q (.inr ha)
  cases hd : ds[i]? with
  | none =>
    have hdrop : ds.drop i = [] := List.drop_eq_nil_of_le (List.getElem?_eq_none_iff.mp hd)
    rw [hdrop] at hc₂; cases hc₂
    rw [List.append_nil] at hes
    refine wpAny_mono (ok.dn (s := { s with heap := h₂, toks := tk₂ }) hA.1 S₂ j₂ hd) (fun r' s₁ q => ?_) fun _ _ e => e
    obtain ⟨rfl, h₃, rfl, x₃, S₃⟩ := q
    refine k _ ⟨h₃, tk₂, μ₂, ws₂, rfl, x₂.trans (x₃.mono fun a ha => .inr (.inl ha)), S₃, F₂.ext S₂ (ok.flds _ _ _ j₂) x₃, ?_, by rw [← hes]; exact r₂.ext (ok.flds _ _ _ j₂).noSeq x₃⟩
    obtain ⟨kk, e⟩ := hp₂
    exact ⟨kk, x₃.keep _ _ e (S₂.sep _ ha₂) accX⟩
  | some dd =>
    have hlt : i < ds.length := (List.getElem?_eq_some_iff.mp hd).1
    have hdrop : ds.drop i = dd :: ds.drop (i + 1) := by
      rw [List.drop_eq_getElem_cons hlt]; congr 1; exact (List.getElem?_eq_some_iff.mp hd).2
    rw [hdrop] at hc₂
    simp only [compLL, Option.bind_eq_some_iff, Option.map_eq_some_iff] at hc₂
    obtain ⟨⟨Γ₃, σ₃⟩, e₃, ⟨es₄, Γ₄, σ₄⟩, e₄, ⟨rest', q5⟩, e₅, e₆⟩ := hc₂
    cases e₆
    dsimp only at hes e₅
    refine wpAny_mono (ok.nx (s := { s with heap := h₂, toks := tk₂ }) (tgt := tgt) hA.1 S₂ j₂ hd hen) (fun r' s₁ q => ?_) fun _ _ e => e
    obtain ⟨v, rfl, q⟩ := q
    refine wpAny_mono q (fun _ s₃ q => ?_) fun _ _ e => e
    obtain ⟨h₃, tk₃, rfl, j₃, x₃, S₃, r₃⟩ := q
    have F₃ := F₂.ext S₂ (ok.flds _ _ _ j₂) x₃
    obtain ⟨kk, ea⟩ := hp₂
    have ea₃ := x₃.keep _ _ ea (S₂.sep _ ha₂) accX
    refine HT.go (s := { s with heap := h₃, toks := tk₃ }) hA S₃ F₃ r₃ e₃ fun h₄ tk₄ μ₄ x₄ S₄ F₄ => ?_
    have j₄ := ok.stab _ _ _ _ _ _ j₃ F₃.dc x₄.w
    have ha₄ := acc_r x₄ ha₂
    have ea₄ := x₄.keep _ _ ea₃ (S₂.sep _ ha₂) (acc_not_own S₃ F₃ ha₂)
    have hlen : es₂.length + (es₄.length + rest'.length) = es.length + es'.length := by
      have := congrArg List.length hes; simpa using this
    refine HB A { s with heap := h₄, toks := tk₄ } μ₄ Γ₃ σ₃ ws₂ es₂ es₄ Γ₄ σ₄ _ _ hA S₄ ha₄ F₄ ⟨kk, ea₄⟩ ((r₂.ext (ok.flds _ _ _ j₂).noSeq x₃).ext F₃.dc.noSeq x₄) (by omega) e₄ fun s' p => ?_
    obtain ⟨h₅, tk₅, μ₅, ws₅, rfl, x₅, S₅, F₅, hp₅, r₅⟩ := p
    have x₅' : ExtW (Own sh env) h₄ μ₄ h₅ μ₅ := x₅.toW fun a q => q.elim .inl fun q => q.elim (fun f => f.elim) fun q => .inr (by rw [q]; exact .inr ha₄)
    have j₅ := ok.stab _ _ _ _ _ _ j₄ F₄.dc x₅'
    have x25 : Ext (fun b => Own sh env b ∨ X b ∨ b = acc) s.heap μ h₅ μ₅ :=
      x₂.trans ((x₃.mono fun a ha => .inr (.inl ha)).trans ((x₄.mono fun a ha => .inl ha).trans (x₅.mono fun a q => q.elim .inl fun q => q.elim (fun f => f.elim) fun q => .inr (.inr q))))
    exact ⟨rfl, ds.length - i, by omega, i + 1, h₅, tk₅, μ₅, Γ₄, σ₄, ws₅, es₂ ++ es₄, rest', by omega, by omega, rfl, x25, S₅, F₅, j₅, hp₅, r₅, by rw [← hes, List.append_assoc], e₅⟩
/-- acc.append(elt), no test -/
theorem body_elt {elt : Expr} {env : Env} {acc : Addr} {a : Cmd} (HE : Snd prog w h₀ n sh elt a) :
    BodyOk h₀ n sh env acc (fun A Q E s => wpAny (model prog w) A (eval elt env) (fun x s₁ => wpAny (model prog w) A (call (.builtin "list.append") [.ref acc, x]) (fun _ s₂ => Q s₂) E s₁) E s) (fElt a) := by
  intro A s μ Γ σ ws es es' Γ' σ' E Q hA S ha F hp r hl hc k
  simp only [fElt, Option.map_eq_some_iff] at hc
  obtain ⟨⟨d, σ₁⟩, e₁, e₂⟩ := hc
  cases e₂
  refine HE.go hA S F e₁ fun v h₁ tk₁ μ₁ x₁ S₁ F₁ r₁ => ?_
  obtain ⟨kk, ea⟩ := hp
  have ea₁ := x₁.keep _ _ ea (S.sep _ ha) (fun f => f)
  have ha₁ := acc_r x₁ ha
  refine wpAny_list_append_plain (s := { s with heap := h₁, toks := tk₁ }) ⟨kk, ea₁⟩ (fun h₂ hp₂ hs₂ => k _ ?_) (by rw [szl, List.size_toArray, r.length]; simp at hl; omega)
  replace hs₂ : Heap.SameBut acc h₁ h₂ := hs₂
  have xa : Ext (fun b => b = acc) h₁ μ₁ h₂ μ₁ := ⟨fun b o eb _ hb => (hs₂.2 b hb).trans eb, [], add_nil _, by simp⟩
  have xw : ExtW No h₁ μ₁ h₂ μ₁ := xa.toW fun b q => .inr (by rw [q]; exact .inr ha₁)
  have S₂ : St h₀ h₂ μ₁ σ₁ := by
    refine ⟨fun b o e => (hs₂.2 b fun q => ?_).trans (S₁.base b o e), S₁.len, S₁.nd, S₁.lo, fun k a e => ?_, fun b hb => ?_, S₁.sep⟩
    · rw [q, S₁.lo _ (.inr ha₁)] at e; cases e
    · obtain ⟨l, vs, hl, ⟨m, e'⟩, q⟩ := S₁.at_ k a e
      exact ⟨l, vs, hl, ⟨m, (hs₂.2 a fun q => S₁.sep _ ha₁ (q ▸ List.mem_of_getElem? e)).trans e'⟩, q.extW (NoSeq.no _) xw⟩
    · by_cases hb' : b = acc
      · obtain ⟨m, e⟩ := hp₂; subst hb'; exact ⟨_, _, m, e, rfl⟩
      · obtain ⟨o, xs, m, e, hd⟩ := S₁.res b hb; exact ⟨o, xs, m, (hs₂.2 b hb').trans e, hd⟩
  refine ⟨h₂, tk₁, μ₁, ws ++ [v], rfl, (x₁.of.trans (xa.mono fun b q => .inr (.inr q))), S₂, F₁.extW S₁ (Flds.no _) xw, ?_, ?_⟩
  · have e : ws.toArray.push v = (ws ++ [v]).toArray := by simp
    rw [← e]; exact hp₂
  · exact ((r.ext (NoSeq.no _) x₁).snoc r₁).extW (NoSeq.no _) xw
theorem PostB.lift {sh : Sh} {env : Env} {X : Addr → Prop} {acc : Addr} {s : Shared} {μ : Mu} {es : List D} {Γ' : Gam} {σ' : Sto} {h₁ : Heap} {tk₁ : Nat} {μ₁ : Mu} {s' : Shared} (x : Ext No s.heap μ h₁ μ₁)
    (p : PostB h₀ sh env X acc { s with heap := h₁, toks := tk₁ } μ₁ es Γ' σ' s') : PostB h₀ sh env X acc s μ es Γ' σ' s' := by
  obtain ⟨h', tk', μ', ws, rfl, e, S, F, q, r⟩ := p
  exact ⟨h', tk', μ', ws, rfl, x.of.trans e, S, F, q, r⟩
theorem body_if {c elt : Expr} {env : Env} {acc : Addr} {q : QCmd} {a : Cmd} (HQ : SndQ prog w h₀ n sh c q) (HE : Snd prog w h₀ n sh elt a) :
    BodyOk h₀ n sh env acc (fun A Q E s => wpAny (model prog w) A (isTrue c env (eval c env)) (fun ok s₀ => if ok = true then wpAny (model prog w) A (eval elt env) (fun x s₁ => wpAny (model prog w) A (call (.builtin "list.append") [.ref acc, x]) (fun _ s₂ => Q s₂) E s₁) E s₀ else Q s₀) E s) (fIf q a) := by
  intro A s μ Γ σ ws es es' Γ' σ' E Q hA S ha F hp r hl hc k
  simp only [fIf, Option.bind_eq_some_iff] at hc
  obtain ⟨⟨b, σ₁⟩, e₁, e₂⟩ := hc
  refine HQ.go hA S F e₁ fun h₁ tk₁ μ₁ x₁ S₁ F₁ => ?_
  obtain ⟨kk, ea⟩ := hp
  have ea₁ := x₁.keep _ _ ea (S.sep _ ha) (fun f => f)
  cases b with
  | true =>
    simp only [if_true] at e₂ ⊢
    exact body_elt HE A { s with heap := h₁, toks := tk₁ } μ₁ Γ σ₁ ws es es' Γ' σ' E Q hA S₁ (acc_r x₁ ha) F₁ ⟨kk, ea₁⟩ (r.ext (NoSeq.no _) x₁) hl e₂ fun s' p => k s' (p.lift x₁)
  | false =>
    simp only [Bool.false_eq_true, if_false] at e₂ ⊢
    cases e₂
    refine k _ ⟨h₁, tk₁, μ₁, ws, rfl, x₁.of, S₁, F₁, ⟨kk, ea₁⟩, ?_⟩
    rw [List.append_nil]; exact r.ext (NoSeq.no _) x₁
theorem turn_elt (elt tgt iter : Expr) (scope : Scope) (pos : Pos) (it acc : Value) (env : Env) : ∀ A E (Q : Fin → Shared → Prop) s, wpAny (model prog w) A (pyNext it) (fun r s₁ => match r with
        | none => Q (.done .next) s₁
        | some v => wpAny (model prog w) A (letOwnedTupleGo tgt it v) (fun _ s₂ => wpAny (model prog w) A (assign tgt env v) (fun _ s₃ =>
            wpAny (model prog w) A (eval elt env) (fun x s₁ => wpAny (model prog w) A (call (.builtin "list.append") [acc, x]) (fun _ s₄ => Q (.again (.compLoop (.ListComp elt [⟨tgt, iter, [], 0⟩] scope pos) 0 it acc env)) s₄) E s₁) E s₃) E s₂) E s₁) E s →
      wpAny (model prog w) A (compTurn (.ListComp elt [⟨tgt, iter, [], 0⟩] scope pos) 0 it acc env) Q E s := by
  intro A E Q s h
  rw [compTurn_list1]
  refine wpAny_bind (wpAny_standAt (wpAny_bind (wpAny_mono h (fun r s₁ h₁ => ?_) fun _ _ e => e)))
  cases r with
  | none => exact wpAny_pure h₁
  | some v =>
    refine wpAny_bind (wpAny_mono h₁ (fun _ s₂ h₂ => wpAny_bind (wpAny_mono h₂ (fun _ s₃ h₃ => ?_) fun _ _ e => e)) fun _ _ e => e)
    exact wpAny_bind (wpAny_bind (wpAny_mono h₃ (fun x s₄ h₄ => wpAny_bind (wpAny_mono h₄ (fun _ s₅ h₅ => wpAny_pure (wpAny_pure h₅)) fun _ _ e => e)) fun _ _ e => e))
theorem turn_if (elt tgt iter c : Expr) (scope : Scope) (pos : Pos) (it acc : Value) (env : Env) : ∀ A E (Q : Fin → Shared → Prop) s, wpAny (model prog w) A (pyNext it) (fun r s₁ => match r with
        | none => Q (.done .next) s₁
        | some v => wpAny (model prog w) A (letOwnedTupleGo tgt it v) (fun _ s₂ => wpAny (model prog w) A (assign tgt env v) (fun _ s₃ =>
            wpAny (model prog w) A (isTrue c env (eval c env)) (fun ok s₀ => if ok = true then wpAny (model prog w) A (eval elt env) (fun x s₁ => wpAny (model prog w) A (call (.builtin "list.append") [acc, x]) (fun _ s₄ => Q (.again (.compLoop (.ListComp elt [⟨tgt, iter, [c], 0⟩] scope pos) 0 it acc env)) s₄) E s₁) E s₀
              else Q (.again (.compLoop (.ListComp elt [⟨tgt, iter, [c], 0⟩] scope pos) 0 it acc env)) s₀) E s₃) E s₂) E s₁) E s →
      wpAny (model prog w) A (compTurn (.ListComp elt [⟨tgt, iter, [c], 0⟩] scope pos) 0 it acc env) Q E s := by
  intro A E Q s h
  rw [compTurn_list]
  refine wpAny_bind (wpAny_standAt (wpAny_bind (wpAny_mono h (fun r s₁ h₁ => ?_) fun _ _ e => e)))
  cases r with
  | none => exact wpAny_pure h₁
  | some v =>
    refine wpAny_bind (wpAny_mono h₁ (fun _ s₂ h₂ => wpAny_bind (wpAny_mono h₂ (fun _ s₃ h₃ => wpAny_bind (wpAny_tests_one (wpAny_mono h₃ (fun ok s₄ h₄ => ?_) fun _ _ e => e))) fun _ _ e => e)) fun _ _ e => e)
    cases ok with
    | false => exact wpAny_pure h₄
    | true => exact wpAny_bind (wpAny_bind (wpAny_mono h₄ (fun x s₄ h₄ => wpAny_bind (wpAny_mono h₄ (fun _ s₅ h₅ => wpAny_pure (wpAny_pure h₅)) fun _ _ e => e)) fun _ _ e => e))
end
end Mine
-- F12
namespace Mine
open PySem PySem.W PyProof.Rows
noncomputable def cComp (mp : List (Option Nat)) (c : ICmd) (t : TCmd) (f : FCmd) : Cmd := fun Γ σ => (c Γ σ).bind fun p => (compLL t f p.1 (gamOf mp Γ) p.2).bind fun r => if okN r.1 then some (.lst r.1, r.2.2) else none
noncomputable def cCompR (mp : List (Option Nat)) (c : ICmd) (t : TCmd) (f : FCmd) : Cmd := fun Γ σ => (c Γ σ).bind fun p => (compLL t f p.1 (gamOf mp Γ) p.2).bind fun r => if okN r.1 then some (.ref r.2.2.length, r.2.2 ++ [r.1]) else none
mutual
theorem Rep.move {h : Heap} {l r : List Addr} {D : Addr} : ∀ {v d}, Rep h ⟨l, D :: r⟩ v d → Rep h ⟨l ++ [D], r⟩ v d
  | _, _, .none => .none
  | _, _, .bool b => .bool b
  | _, _, .int i t => .int i t
  | _, _, .str i t => .str i t
  | _, _, .tup ho hm x => .tup ho (fun q => hm (mv q)) x.move
  | _, _, .lst ho hm x => .lst ho (fun q => hm (mv q)) x.move
  | _, _, .scr ho hm x => .scr ho (fun q => hm (mv q)) x.move
  | _, _, .ref e => .ref (by
      have e' : l[_]? = some _ := e
      show (l ++ [D])[_]? = _
      rw [List.getElem?_append_left (List.getElem?_eq_some_iff.mp e').1]; exact e')
theorem RepL.move {h : Heap} {l r : List Addr} {D : Addr} : ∀ {vs ds}, RepL h ⟨l, D :: r⟩ vs ds → RepL h ⟨l ++ [D], r⟩ vs ds
  | _, _, .nil => .nil
  | _, _, .cons x y => .cons x.move y.move
theorem mv {l r : List Addr} {D a : Addr} (q : a ∈ (⟨l ++ [D], r⟩ : Mu)) : a ∈ (⟨l, D :: r⟩ : Mu) := by
  rcases q with q | q
  · rcases List.mem_append.mp q with q | q
    · exact .inl q
    · simp at q; subst q; exact .inr (.head _)
  · exact .inr (.tail _ q)
end
section
variable {prog : Program} {w : World} {h₀ : Heap} {n : Nat} {sh sh' : Sh} {mg mb : Str → Option Value}
theorem St.release {h : Heap} {l r : List Addr} {D : Addr} {σ : Sto} (S : St h₀ h ⟨l, D :: r⟩ σ) : St h₀ h ⟨l, r⟩ σ :=
  ⟨S.base, S.len, S.nd, fun a ha => S.lo a (ha.imp id (.tail _)), fun k a e => let ⟨l', vs, hl, hp, q⟩ := S.at_ k a e; ⟨l', vs, hl, hp, q.release fun _ => .tail _⟩, fun a ha => S.res a (.tail _ ha), fun a ha => S.sep a (.tail _ ha)⟩
theorem St.moved {h : Heap} {l r : List Addr} {D : Addr} {σ : Sto} {ws : List Value} {es : List Mine.D} (S : St h₀ h ⟨l, D :: r⟩ σ) (hr : D ∉ r) (hp : h.PlainList D ws.toArray) (q : RepL h ⟨l, D :: r⟩ ws es) : St h₀ h ⟨l ++ [D], r⟩ (σ ++ [es]) := by
  have hl : D ∉ l := S.sep D (.head _)
  refine ⟨S.base, by have := S.len; simp at this ⊢; exact this, ?_, fun a ha => ?_, fun k a e => ?_, fun a ha => S.res a (.tail _ ha), fun a ha hm => ?_⟩
  · show (l ++ [D]).Nodup
    rw [List.nodup_append]
    exact ⟨S.nd, by simp, fun b hb c hc q' => by simp at hc; rw [q', hc] at hb; exact hl hb⟩
  · exact S.lo a (mv ha)
  · have e : (l ++ [D])[k]? = some a := e
    by_cases hk : k < l.length
    · rw [List.getElem?_append_left hk] at e
      obtain ⟨l', vs, hl', hp', q'⟩ := S.at_ k a e
      exact ⟨l', vs, by rw [List.getElem?_append_left (by have := S.len; simp at this; omega)]; exact hl', hp', q'.move⟩
    · rw [List.getElem?_append_right (by omega)] at e
      have hk0 : k - l.length = 0 := by have := (List.getElem?_eq_some_iff.mp e).1; simp at this; omega
      rw [hk0] at e
      simp only [List.getElem?_cons_zero, Option.some.injEq] at e
      subst e
      refine ⟨es, ws, ?_, hp, q.move⟩
      have hsl : l.length = σ.length := S.len
      rw [List.getElem?_append_right (by omega), ← hsl, hk0]; rfl
  · rcases List.mem_append.mp hm with q | q
    · exact S.sep a (.tail _ ha) q
    · simp at q; subst q; exact hr ha
theorem nfe {M : Model} {A : Around} {E : Value → Shared → Prop} {s : Shared} {scope : Scope} {globals : Addr} {cl : List (Str × Addr)} {qual : Str} {env : Env} {Q : Env → Shared → Prop}
    (h : Q { scope, locals := s.heap.objs.size, globals, cells := cellsFrom (s.heap.objs.size + 1) scope.names cl, qual, func := none, code := env.code, frame := env.frame, builtins := env.builtins }
      { s with heap := pushCells (s.heap.push { cls := .type "dict", data := .dict #[] }) scope.names }) : wpAny M A (newFunctionEnv scope globals cl [] qual none .none (some env)) Q E s := by
  simp only [newFunctionEnv, Option.isSome_some, if_true]
  refine wpAny_bind (wpAny_alloc ?_)
  refine wpAny_bind (wpAny_layCells _ (fun name kind cells => by cases hkc : kind == NameKind.cell <;> simp) _ _ _ _ ?_)
  refine wpAny_bind ?_
  rw [List.forIn_nil]
  refine wpAny_pure (wpAny_pure ?_)
  rw [show ({ s with heap := s.heap.push { cls := .type "dict", data := .dict #[] } } : Shared).heap.objs.size = s.heap.objs.size + 1 from Heap.size_push ..]
  exact h
theorem comp_core {elt tgt iter : Expr} {ifs : List Expr} {rest : List Comprehension} {scope : Scope} {pos : Pos} {mp : List (Option Nat)} {en : Bool} {c : ICmd} {t : TCmd} {f : FCmd}
    {B : Env → Addr → Around → (Shared → Prop) → (Value → Shared → Prop) → Shared → Prop} (ok : CompOk sh sh' scope mp) (hen : en = true → ∃ es k p, tgt = Expr.Tuple es k p)
    (turn : ∀ env acc I A E (Q : Fin → Shared → Prop) s, wpAny (model prog w) A (pyNext (.ref I)) (fun r s₁ => match r with
        | none => Q (.done .next) s₁
        | some v => wpAny (model prog w) A (letOwnedTupleGo tgt (.ref I) v) (fun _ s₂ => wpAny (model prog w) A (assign tgt env v) (fun _ s₃ => B env acc A (fun s₄ => Q (.again (.compLoop (.ListComp elt (⟨tgt, iter, ifs, 0⟩ :: rest) scope pos) 0 (.ref I) (.ref acc) env)) s₄) E s₃) E s₂) E s₁) E s →
      wpAny (model prog w) A (compTurn (.ListComp elt (⟨tgt, iter, ifs, 0⟩ :: rest) scope pos) 0 (.ref I) (.ref acc) env) Q E s)
    (HI : SndI prog w h₀ n sh iter en c) (HT : SndT prog w h₀ n sh' tgt t) (HB : ∀ env acc, BodyOk h₀ n sh' env acc (B env acc) f)
    {A : Around} {env : Env} {s : Shared} {μ : Mu} {Γ : Gam} {σ : Sto} {ds es : List D} {Γ' : Gam} {σ₁ σ' : Sto} {E : Value → Shared → Prop} (hA : Room n A) (S : St h₀ s.heap μ σ) (F : Fm h₀ sh env s.heap μ Γ) (hc1 : c Γ σ = some (ds, σ₁))
    (hc2 : compLL t f ds (gamOf mp Γ) σ₁ = some (es, Γ', σ')) (hl : es.length ≤ 10000) {RR : Value → Addr → Result → Shared → Prop}
    (k : ∀ D C h' tk' l' ws m, s.heap.get? D = none → s.heap.get? C = none → h'.Ns C m → Ext No s.heap μ h' ⟨l', μ.r⟩ → St h₀ h' ⟨l', D :: μ.r⟩ σ' → h'.PlainList D ws.toArray → RepL h' ⟨l', D :: μ.r⟩ ws es →
      RR (.ref D) C (.ok .next) { s with heap := h', toks := tk' }) :
    wpAny (model prog w) A (eval iter env) (fun x s₁ => wpAny (model prog w) A (pyIter x) (fun it s₂ => wpAny (model prog w) A (newList []) (fun acc s₃ =>
      wpAny (model prog w) A (newFunctionEnv scope env.globals (clo env.cells scope.names []) [] env.qual none .none (some env)) (fun cenv s₄ =>
        codeAny (model prog w) A (.compStart (.ListComp elt (⟨tgt, iter, ifs, 0⟩ :: rest) scope pos) 0 it acc { cenv with scope := relabel scope env }) (RR acc cenv.locals) s₄) E s₃) E s₂) E s₁) E s := by
  refine wpAny_mono (HI A env s μ Γ σ ds σ₁ E hA S F hc1) (fun x s₁ hx => wpAny_mono hx (fun it s₂ p => ?_) fun _ _ e => e) fun _ _ e => e
  obtain ⟨I, X, J, h₁, tk₁, μ₁, rfl, rfl, x₁, S₁, it, j0, hX⟩ := p
  have F₁ := F.ext S (Flds.no _) x₁
  refine wpAny_newList (nfe ?_) (by simp)
  dsimp only
  generalize hh2 : h₁.push { cls := .type "list", data := .seq ([] : List Value).toArray } = h₂
  generalize hh3 : pushCells (h₂.push { cls := .type "dict", data := .dict #[] }) scope.names = h₃
  have hD := fresh_size h₁
  have sz2 : h₂.objs.size = h₁.objs.size + 1 := by rw [← hh2, Heap.size_push]
  have K2 : ∀ b o, h₁.get? b = some o → h₂.get? b = some o := fun b o e => hh2 ▸ Heap.get?_push_of_some _ e
  have K23 : ∀ b o, h₂.get? b = some o → h₃.get? b = some o := fun b o e => hh3 ▸ pushCells_keeps _ _ _ _ (Heap.get?_push_of_some _ e)
  have K : ∀ b o, h₁.get? b = some o → h₃.get? b = some o := fun b o e => K23 _ _ (K2 _ _ e)
  have oD : h₃.get? h₁.objs.size = some { cls := .type "list", data := .seq ([] : List Value).toArray } := K23 _ _ (hh2 ▸ Heap.get?_push_size _ rfl)
  have none_ge : ∀ a, h₁.objs.size ≤ a → h₁.get? a = none := fun a ha => by
    cases e : h₁.get? a with
    | none => rfl
    | some o => exact absurd (Heap.lt_size e) (Nat.not_lt.mpr ha)
  have hC0 : h₁.get? h₂.objs.size = none := none_ge _ (by rw [sz2]; exact Nat.le_succ _)
  have S₃ := S₁.reserve hD K ⟨_, _, _, oD, rfl⟩
  have j₃ := it.res 0 h₁ μ₁ _ h₃ j0 hD K
  have hNs : h₃.Ns h₂.objs.size (fun _ => none) := hh3 ▸ (Heap.Ns.new h₂ (.type "dict")).keeps (pushCells_keeps _ _)
  have hfree : ∀ p ∈ scope.names, p.2 = .free → ∃ c, env.cells.lookup p.1 = some c := fun p hp hk => (F.cs _ (ok.free p hp hk)).2
  have ci0 : CI (h₂.push { cls := .type "dict", data := .dict #[] }) (clo env.cells scope.names []) :=
    ⟨fun x c e => by
      obtain ⟨ov, o, ho, hd⟩ := F₁.cel x c (clo_sub _ _ hfree (fun _ _ e => by cases e) x c e)
      exact ⟨ov, o, Heap.get?_push_of_some _ (K2 _ _ ho), hd⟩,
     fun x y c ex ey => F.apart x y c (clo_sub _ _ hfree (fun _ _ e => by cases e) x c ex) (clo_sub _ _ hfree (fun _ _ e => by cases e) y c ey)⟩
  have ci : CI h₃ (cellsFrom (h₂.objs.size + 1) scope.names (clo env.cells scope.names [])) := by
    have := CI.from scope.names _ _ ci0
    rw [Heap.size_push, hh3] at this; exact this
  have F₃ := Fm.comp (sh' := sh') (mp := mp) ok F₁ S₁ hD K hNs hC0 (n := h₂.objs.size + 1) (fun a ha => none_ge a (by rw [sz2] at ha; exact Nat.le_trans (Nat.le_succ _) (Nat.le_trans (Nat.le_succ _) ha))) ci
  have own := comp_own (sh' := sh') (mp := mp) ok F₁ hC0 (n := h₂.objs.size + 1) (fun a ha => none_ge a (by rw [sz2] at ha; exact Nat.le_trans (Nat.le_succ _) (Nat.le_trans (Nat.le_succ _) ha)))
  have key : codeAny (model prog w) A (.compLoop (.ListComp elt (⟨tgt, iter, ifs, 0⟩ :: rest) scope pos) 0 (.ref I) (.ref h₁.objs.size) (compEnvC scope (cellsFrom (h₂.objs.size + 1) scope.names (clo env.cells scope.names [])) h₂.objs.size env))
      (RR (.ref h₁.objs.size) h₂.objs.size) { s with heap := h₃, toks := tk₁ } := by
    refine compLoop_ok (turn _ _ _) it hen HT (HB _ _) (s := { s with heap := h₃, toks := tk₁ }) (ws := []) (es := []) (es' := es) hA S₃ (.head _) F₃ ⟨0, oD⟩ .nil (by simp; omega) j₃ hc2 (fun a ha hm => ?_) fun s' p => ?_
    · obtain ⟨o, xs, m, e, hd⟩ := S₃.isList hm
      obtain ⟨vs, hv⟩ := it.flds _ _ _ j₃ a o ha e
      rw [hd] at hv; cases hv
    · obtain ⟨h', tk', μ', ws, rfl, x, S', F', hp, r⟩ := p
      obtain ⟨m, hm, _⟩ := F'.var
      obtain ⟨ν₁, e1, hν₁⟩ := x₁.pre
      obtain ⟨ν, e2, hν⟩ := x.pre
      subst e2; subst e1
      have sn : ∀ a, (Own sh' (compEnvC scope (cellsFrom (h₂.objs.size + 1) scope.names (clo env.cells scope.names [])) h₂.objs.size env) a ∨ X a ∨ a = h₁.objs.size) → a ∉ μ.l → s.heap.get? a = none := fun a q hm' => by
        cases e : s.heap.get? a with
        | none => rfl
        | some o =>
          have e' := x₁.keep a o e hm' (fun f => f)
          rcases q with q | q | q
          · rw [own a q] at e'; cases e'
          · rw [hX a q] at e; cases e
          · rw [q, hD] at e'; cases e'
      refine k _ _ h' tk' (μ.l ++ ν₁ ++ ν) ws m ?_ ?_ hm ⟨fun b o e hb _ => ?_, ν₁ ++ ν, by simp [Mu.add], fun a ha => ?_⟩ S' hp r
      · exact sn _ (.inr (.inr rfl)) fun q => S₁.fresh hD (.inl (List.mem_append_left _ q))
      · cases e : s.heap.get? h₂.objs.size with
        | none => rfl
        | some o =>
          have hb : h₂.objs.size ∉ μ.l := fun q => S₁.fresh hC0 (.inl (List.mem_append_left _ q))
          have := x₁.keep _ _ e hb (fun f => f)
          rw [hC0] at this; cases this
      · exact x.keep b o (K _ _ (x₁.keep b o e hb (fun f => f))) (x₁.notInL e hb (fun f => f)) fun q => by
          rw [sn b q hb] at e; cases e
      · rcases List.mem_append.mp ha with q | q
        · exact hν₁ a q
        · obtain ⟨q1, q2⟩ := hν a q
          have hμ : a ∉ μ := fun q => q1 (by
            rcases q with q | q
            · exact .inl (List.mem_append_left _ q)
            · exact .inr (.tail _ q))
          refine ⟨hμ, .inl ?_⟩
          rcases q2 with q2 | q2
          · cases e : s.heap.get? a with
            | none => rfl
            | some o =>
              have := K _ _ (x₁.keep a o e (not_l hμ) (fun f => f))
              have q2' : h₃.get? a = none := q2
              rw [q2'] at this; cases this
          · exact sn a q2 (not_l hμ)
  refine codeAny_compStart_list key (it.self _ _ 0 _ _ _ j₃ key)
theorem post_same {h' h'' : Heap} {C : Addr} {μ : Mu} {σ : Sto} {m : Str → Option Value} (S : St h₀ h' μ σ) (hm : h'.Ns C m) (hC : h₀.get? C = none) (hs : Heap.SameBut C h' h'') : St h₀ h'' μ σ ∧ Ext (fun a => a = C) h' μ h'' μ ∧ NoSeq (fun a => a = C) h' := by
  have hO : NoSeq (fun a => a = C) h' := fun a o ha e => by
    cases ha
    obtain ⟨o', es, ep, ho', hd, _⟩ := hm
    rw [e] at ho'; cases ho'; intro xs n q; rw [hd] at q; cases q
  have hne : C ∉ μ := by
    obtain ⟨o', es, ep, ho', hd, _⟩ := hm
    exact S.notIn ho' fun xs n q => by rw [hd] at q; cases q
  have X : Ext (fun a => a = C) h' μ h'' μ := ⟨fun b o eb hb hO => (hs.2 b hO).trans eb, [], add_nil μ, by simp⟩
  exact ⟨S.grow hO (fun a ha => by cases ha; exact hC) X fun a ha => hs.2 a fun q => hne (q ▸ ha), X, hO⟩
theorem ext_same {s : Heap} {h' h'' : Heap} {C : Addr} {μ μ' : Mu} (x : Ext No s μ h' μ') (hC : s.get? C = none) (y : Ext (fun a => a = C) h' μ' h'' μ') : Ext No s μ h'' μ' := by
  have z : Ext (fun a => a = C) s μ h'' μ' := x.of.trans y
  exact ⟨fun b o e hb _ => z.keep b o e hb fun q => (by rw [q, hC] at e; cases e), let ⟨ν, e, hν⟩ := z.pre; ⟨ν, e, fun a ha => ⟨(hν a ha).1, .inl ((hν a ha).2.elim id fun q => by rw [q]; exact hC)⟩⟩⟩
/-- a list comprehension's value -/
theorem snd_comp {elt tgt iter : Expr} {ifs : List Expr} {rest : List Comprehension} {scope : Scope} {pos : Pos} {mp : List (Option Nat)} {en : Bool} {c : ICmd} {t : TCmd} {f : FCmd}
    {B : Env → Addr → Around → (Shared → Prop) → (Value → Shared → Prop) → Shared → Prop} (ok : CompOk sh sh' scope mp) (hs : ∀ env x, foldedSetIterable iter env x = pure x) (hen : en = true → ∃ es k p, tgt = Expr.Tuple es k p)
    (turn : ∀ env acc I A E (Q : Fin → Shared → Prop) s, wpAny (model prog w) A (pyNext (.ref I)) (fun r s₁ => match r with
        | none => Q (.done .next) s₁
        | some v => wpAny (model prog w) A (letOwnedTupleGo tgt (.ref I) v) (fun _ s₂ => wpAny (model prog w) A (assign tgt env v) (fun _ s₃ => B env acc A (fun s₄ => Q (.again (.compLoop (.ListComp elt (⟨tgt, iter, ifs, 0⟩ :: rest) scope pos) 0 (.ref I) (.ref acc) env)) s₄) E s₃) E s₂) E s₁) E s →
      wpAny (model prog w) A (compTurn (.ListComp elt (⟨tgt, iter, ifs, 0⟩ :: rest) scope pos) 0 (.ref I) (.ref acc) env) Q E s)
    (HI : SndI prog w h₀ n sh iter en c) (HT : SndT prog w h₀ n sh' tgt t) (HB : ∀ env acc, BodyOk h₀ n sh' env acc (B env acc) f) :
    Snd prog w h₀ n sh (.ListComp elt (⟨tgt, iter, ifs, 0⟩ :: rest) scope pos) (cComp mp c t f) ∧ Snd prog w h₀ n sh (.ListComp elt (⟨tgt, iter, ifs, 0⟩ :: rest) scope pos) (cCompR mp c t f) := by
  refine ⟨?_, ?_⟩
  · intro A env s μ Γ σ d σ' E hA S F hc
    simp only [cComp, Option.bind_eq_some_iff] at hc
    obtain ⟨⟨ds, σ₁⟩, e₁, ⟨es, Γ', σ₂⟩, e₂, e₃⟩ := hc
    dsimp only at e₃
    split at e₃
    · rename_i hl; cases e₃
      have hclo : closureFor scope env = pure (clo env.cells scope.names []) := closureFor_clo fun p hp hk => (F.cs _ (ok.free p hp hk)).2
      rw [eval_ListComp]
      refine wpAny_comprehension_free (use := none) rfl (hs env) hclo ok.kind ok.loc (comp_core ok hen turn HI HT HB hA S F e₁ e₂ (okN_le hl)
        (RR := fun acc C => compPost (model prog w) A E none (PostE h₀ s μ σ' (.lst es)) acc C) fun D C h' tk' l' ws m hD hC hm x S' hp r => ?_)
      refine ⟨m, hm, fun h'' hs'' => ?_⟩
      have Sr := S'.release
      obtain ⟨S₂, X₂, hO⟩ := post_same Sr hm (S.base_none hC) hs''
      refine ⟨h'', tk', _, rfl, ext_same x hC X₂, S₂, ?_⟩
      refine Rep.ext hO X₂ (.lst hp (fun q => ?_) (r.release fun _ => .tail _))
      rcases q with q | q
      · exact S'.sep _ (.head _) q
      · exact S.fresh hD (.inr q)
    · cases e₃
  · intro A env s μ Γ σ d σ' E hA S F hc
    simp only [cCompR, Option.bind_eq_some_iff] at hc
    obtain ⟨⟨ds, σ₁⟩, e₁, ⟨es, Γ', σ₂⟩, e₂, e₃⟩ := hc
    dsimp only at e₃
    split at e₃
    · rename_i hl; cases e₃
      have hclo : closureFor scope env = pure (clo env.cells scope.names []) := closureFor_clo fun p hp hk => (F.cs _ (ok.free p hp hk)).2
      rw [eval_ListComp]
      refine wpAny_comprehension_free (use := none) rfl (hs env) hclo ok.kind ok.loc (comp_core ok hen turn HI HT HB hA S F e₁ e₂ (okN_le hl)
        (RR := fun acc C => compPost (model prog w) A E none (PostE h₀ s μ (σ₂ ++ [es]) (.ref σ₂.length)) acc C) fun D C h' tk' l' ws m hD hC hm x S' hp r => ?_)
      refine ⟨m, hm, fun h'' hs'' => ?_⟩
      have hDr : D ∉ μ.r := fun q => S.fresh hD (.inr q)
      have Sm := S'.moved hDr hp r
      obtain ⟨S₂, X₂, hO⟩ := post_same Sm hm (S.base_none hC) hs''
      have x' : Ext No s.heap μ h' ⟨l' ++ [D], μ.r⟩ := by
        obtain ⟨ν, e, hν⟩ := x.pre
        have e' : l' = μ.l ++ ν := congrArg Mu.l e
        refine ⟨x.keep, ν ++ [D], by simp [Mu.add, e'], fun a ha => ?_⟩
        rcases List.mem_append.mp ha with q | q
        · exact hν a q
        · simp at q; subst q; exact ⟨S.fresh hD, .inl hD⟩
      refine ⟨h'', tk', _, rfl, ext_same x' hC X₂, S₂, .ref ?_⟩
      have hlen : l'.length = σ₂.length := S'.len
      show (l' ++ [D])[σ₂.length]? = _
      rw [List.getElem?_append_right (by omega), hlen]; simp
    · cases e₃
/-- a block that is none of the frame's -/
theorem Fm.other {env : Env} {h h' : Heap} {C : Addr} {μ : Mu} {Γ : Gam} (F : Fm h₀ sh env h μ Γ) (hs : Heap.SameBut C h h') (hL : env.locals ≠ C) (hc : ∀ x c, env.cells.lookup x = some c → c ≠ C) (X : Ext (fun a => a = C) h μ h' μ) (hO : NoSeq (fun a => a = C) h) : Fm h₀ sh env h' μ Γ := by
  refine ⟨F.lo, F.kind, F.glob, F.bi, F.gs, F.nd, F.ls, F.cw, F.cs, fun y c e => ?_, F.apart, ?_⟩
  · obtain ⟨ov, o, ho, hd⟩ := F.cel y c e
    exact ⟨ov, o, (hs.2 c (hc y c e)).trans ho, hd⟩
  · obtain ⟨m, ⟨o, es, ep, ho, hd, hr⟩, hv⟩ := F.var
    refine ⟨m, ⟨o, es, ep, (hs.2 _ hL).trans ho, hd, hr⟩, fun i x d e1 e2 => ?_⟩
    obtain ⟨v, r, hk⟩ := hv i x d e1 e2
    refine ⟨v, r.ext hO X, hk.imp id fun ⟨q, c, hcl, o', ho', hd'⟩ => ⟨q, c, hcl, o', (hs.2 c (hc x c hcl)).trans ho', hd'⟩⟩
set_option maxHeartbeats 1000000 in
/-- x = [...]: the block's names go before or behind the store -/
theorem snds_comp {i : Nat} {x : Str} {px : Pos} {elt tgt iter : Expr} {ifs : List Expr} {rest : List Comprehension} {scope : Scope} {pos cpos : Pos} {mp : List (Option Nat)} {en : Bool} {c : ICmd} {t : TCmd} {f : FCmd}
    {B : Env → Addr → Around → (Shared → Prop) → (Value → Shared → Prop) → Shared → Prop} (ok : CompOk sh sh' scope mp) (hs : ∀ env x, foldedSetIterable iter env x = pure x) (hen : en = true → ∃ es k p, tgt = Expr.Tuple es k p)
    (turn : ∀ env acc I A E (Q : Fin → Shared → Prop) s, wpAny (model prog w) A (pyNext (.ref I)) (fun r s₁ => match r with
        | none => Q (.done .next) s₁
        | some v => wpAny (model prog w) A (letOwnedTupleGo tgt (.ref I) v) (fun _ s₂ => wpAny (model prog w) A (assign tgt env v) (fun _ s₃ => B env acc A (fun s₄ => Q (.again (.compLoop (.ListComp elt (⟨tgt, iter, ifs, 0⟩ :: rest) scope cpos) 0 (.ref I) (.ref acc) env)) s₄) E s₃) E s₂) E s₁) E s →
      wpAny (model prog w) A (compTurn (.ListComp elt (⟨tgt, iter, ifs, 0⟩ :: rest) scope cpos) 0 (.ref I) (.ref acc) env) Q E s)
    (HI : SndI prog w h₀ n sh iter en c) (HT : SndT prog w h₀ n sh' tgt t) (HB : ∀ env acc, BodyOk h₀ n sh' env acc (B env acc) f) (hi : sh.ns[i]? = some x) (hx : x ∈ sh.ls ∨ x ∈ sh.cw) :
    SndS prog w h₀ n sh (.Assign [.Name x px] (.ListComp elt (⟨tgt, iter, ifs, 0⟩ :: rest) scope cpos) pos) (sAssign (cComp mp c t f) (tVar i)) := by
  intro A env s μ Γ σ fl Γ' σ' E hA S F hc
  simp only [sAssign, cComp, Option.bind_eq_some_iff, Option.map_eq_some_iff] at hc
  obtain ⟨⟨d, σ₃⟩, ⟨⟨ds, σ₁⟩, e₁, ⟨es, Γ₂, σ₂⟩, e₂, e₃⟩, ⟨Γ₄, σ₄⟩, e₄, e₅⟩ := hc
  dsimp only at e₃
  split at e₃
  · rename_i hl; cases e₃; cases e₅; cases e₄
    have hclo : closureFor scope env = pure (clo env.cells scope.names []) := closureFor_clo fun p hp hk => (F.cs _ (ok.free p hp hk)).2
    rw [exec_Assign]
    refine wpAny_bind (wpAny_standAt ?_)
    have hb : ∃ b, swapsWithSole [.Name x px] (.ListComp elt (⟨tgt, iter, ifs, 0⟩ :: rest) scope cpos) pos.line env = pure b := ⟨_, rfl⟩
    obtain ⟨b, hb⟩ := hb
    rw [hb]
    refine wpAny_bind (wpAny_pure ?_)
    have HTx : SndT prog w h₀ n sh (.Name x px) (tVar i) := SndT.var hi hx
    cases b with
    | false =>
      simp only [Bool.false_eq_true, if_false]
      have Hv := (snd_comp (pos := cpos) (mp := mp) ok hs hen turn HI HT HB).1
      refine wpAny_bind (Hv.go (d := .lst es) (σ' := σ₃) hA S F (by simp only [cComp, Option.bind_eq_some_iff]; exact ⟨_, e₁, _, e₂, by rw [if_pos hl]⟩) fun v₁ h₁ tk₁ μ₁ x₁ S₁ F₁ r₁ => ?_)
      refine wpAny_bind (wpAny_pure ?_)
      show wpAny (model prog w) A (assignAll v₁ [PySem.assign (.Name x px) env] >>= fun _ => pure Flow.next) _ E _
      refine wpAny_bind ?_
      show wpAny (model prog w) A (PySem.assign (.Name x px) env v₁) _ E _
      exact HTx.go hA S₁ F₁ r₁ rfl fun h₂ tk₂ μ₂ x₂ S₂ F₂ => wpAny_pure ⟨h₂, tk₂, μ₂, rfl, x₁.of.trans x₂, S₂, F₂, rfl⟩
    | true =>
      simp only [if_true]
      refine wpAny_bind ?_
      show wpAny (model prog w) A (comprehension (.ListComp elt (⟨tgt, iter, ifs, 0⟩ :: rest) scope cpos) scope env (firstIterPos (⟨tgt, iter, ifs, 0⟩ :: rest) cpos) (newList []) false (eval iter env)
        (some fun v => assignAll v [PySem.assign (.Name x px) env]) >>= fun _ => pure ()) _ E s
      refine wpAny_bind (wpAny_comprehension_free rfl (hs env) hclo ok.kind ok.loc (comp_core ok hen turn HI HT HB hA S F e₁ e₂ (okN_le hl)
        (RR := fun acc C => compPost (model prog w) A E (some fun v => assignAll v [PySem.assign (.Name x px) env]) (fun _ s' => wpAny (model prog w) A (pure () : Sem Unit) (fun _ s' => wpAny (model prog w) A (pure Flow.next : Sem Flow) (PostS h₀ sh env s μ .next (Γ.set i (some (.lst es))) σ₃) E s') E s') acc C) fun D C h' tk' l' ws m hD hC hm x S' hp r => ?_))
      have Sr := S'.release
      have rl : Rep h' ⟨l', μ.r⟩ (.ref D) (.lst es) := .lst hp (fun q => by
        rcases q with q | q
        · exact S'.sep _ (.head _) q
        · exact S.fresh hD (.inr q)) (r.release fun _ => .tail _)
      show wpAny (model prog w) A (PySem.assign (.Name _ px) env (.ref D)) _ E _
      refine HTx.go (s := { s with heap := h', toks := tk' }) hA Sr (F.ext S (Flds.no _) x) rl rfl fun h₅ tk₅ μ₅ x₅ S₅ F₅ => ?_
      have ownC : ¬ Own sh env C := fun q => by
        rcases q with rfl | ⟨y, hy, hl'⟩
        · obtain ⟨m', ⟨o, _, _, e, _⟩, _⟩ := F.var; rw [hC] at e; cases e
        · obtain ⟨ov, o, e, _⟩ := F.cel y C hl'; rw [hC] at e; cases e
      have hm₅ : h₅.Ns C m := by
        obtain ⟨o, es', ep, e, hd, q⟩ := hm
        exact ⟨o, es', ep, x₅.keep _ _ e (not_l (Sr.notIn e fun xs k q => by rw [hd] at q; cases q)) ownC, hd, q⟩
      refine ⟨m, hm₅, fun h'' hs'' => wpAny_pure (wpAny_pure ?_)⟩
      obtain ⟨S₆, X₆, hO₆⟩ := post_same S₅ hm₅ (S.base_none hC) hs''
      have F₆ := F₅.other hs'' (fun q => by
        obtain ⟨m', ⟨o, _, _, e, _⟩, _⟩ := F.var; rw [q, hC] at e; cases e) (fun y c e q => by
        obtain ⟨ov, o, e', _⟩ := F.cel y c e; rw [q, hC] at e'; cases e') X₆ hO₆
      have z : Ext (fun a => Own sh env a ∨ a = C) s.heap μ h'' μ₅ := x.of.trans ((x₅.mono fun a q => .inl q).trans (X₆.mono fun a q => .inr q))
      refine ⟨h'', tk₅, μ₅, rfl, ⟨fun b o e hb hn => z.keep b o e hb fun q => q.elim hn fun q => (by rw [q, hC] at e; cases e), ?_⟩, S₆, F₆, rfl⟩
      obtain ⟨ν, e, hν⟩ := z.pre
      exact ⟨ν, e, fun a ha => ⟨(hν a ha).1, (hν a ha).2.elim .inl fun q => q.elim .inr fun q => .inl (by rw [q]; exact hC)⟩⟩
  · cases e₃
end
end Mine
-- F13
namespace Mine
open PySem PySem.W PyProof.Rows
noncomputable def omap {α β : Type} (f : α → Option β) : List α → Option (List β)
  | [] => some []
  | a :: l => (f a).bind fun b => (omap f l).map fun m => b :: m
/-- what a list of the store from n on holds, as a value -/
noncomputable def frz : Nat → Sto → Nat → D → Option D
  | 0, _, _, _ => none
  | f + 1, σ, n, d => match d with
    | .tup l => (omap (frz f σ n) l).map .tup
    | .lst l => (omap (frz f σ n) l).map .lst
    | .scr l => (omap (frz f σ n) l).map .scr
    | .ref k => if k < n then some (.ref k) else (σ[k]?).bind fun l => (omap (frz f σ n) l).map .lst
    | d => some d
noncomputable def finish (n : Nat) (d : D) (σ : Sto) : Option (D × Sto) :=
  if σ.length = n then some (d, σ) else (frz 8 σ n d).bind fun d' => (omap (fun l => omap (frz 8 σ n) l) (σ.take n)).map fun σ' => (d', σ')
noncomputable def mkFn (k m : Nat) (c : SCmd) : Fn := fun ds σ => if ds.length = k then (c (ds.map some ++ List.replicate (m - k) none) σ).bind fun r => match r.1 with
    | .ret d => finish σ.length d r.2.2
    | .next => finish σ.length .none r.2.2
    | _ => none
  else none
theorem frz_all {h : Heap} {μ μ' : Mu} {f : D → Option D} (H : ∀ v d d', Rep h μ v d → f d = some d' → Rep h μ' v d') : ∀ {vs ds es}, RepL h μ vs ds → omap f ds = some es → RepL h μ' vs es
  | _, _, es, .nil, e => by cases e; exact .nil
  | _, _, es, .cons a r, e => by
    simp only [omap, Option.bind_eq_some_iff, Option.map_eq_some_iff] at e
    obtain ⟨b, hb, m, hm, rfl⟩ := e
    exact .cons (H _ _ _ a hb) (frz_all H r hm)
theorem omap_get {α β : Type} {f : α → Option β} : ∀ {l : List α} {m : List β}, omap f l = some m → m.length = l.length ∧ ∀ (i : Nat) a, l[i]? = some a → ∃ b, m[i]? = some b ∧ f a = some b
  | [], m, e => by cases e; exact ⟨rfl, fun i a e => by simp at e⟩
  | x :: l, m, e => by
    simp only [omap, Option.bind_eq_some_iff, Option.map_eq_some_iff] at e
    obtain ⟨b, hb, m', hm, rfl⟩ := e
    obtain ⟨h1, h2⟩ := omap_get hm
    refine ⟨by simp [h1], fun i a e => ?_⟩
    cases i with
    | zero => simp at e; subst e; exact ⟨b, rfl, hb⟩
    | succ i => simpa using h2 i a (by simpa using e)
section
variable {h₀ h : Heap} {l ν r : List Addr} {σ : Sto}
theorem sub_mu {a : Addr} (q : a ∈ (⟨l, r⟩ : Mu)) : a ∈ (⟨l ++ ν, r⟩ : Mu) := q.imp (List.mem_append_left _) id
theorem Rep.frz_ (S : St h₀ h ⟨l ++ ν, r⟩ σ) : ∀ (f : Nat) v d d', Rep h ⟨l ++ ν, r⟩ v d → frz f σ l.length d = some d' → Rep h ⟨l, r⟩ v d'
  | 0, v, d, d', _, e => by cases e
  | f + 1, v, d, d', q, e => by
    unfold frz at e
    cases q with
    | none => cases e; exact .none
    | bool b => cases e; exact .bool b
    | int i t => cases e; exact .int i t
    | str x t => cases e; exact .str x t
    | tup p m q =>
      simp only [Option.map_eq_some_iff] at e
      obtain ⟨m', hm, rfl⟩ := e
      exact .tup p (fun q => m (sub_mu q)) (frz_all (Rep.frz_ S f) q hm)
    | lst p m q =>
      simp only [Option.map_eq_some_iff] at e
      obtain ⟨m', hm, rfl⟩ := e
      exact .lst p (fun q => m (sub_mu q)) (frz_all (Rep.frz_ S f) q hm)
    | scr p m q =>
      simp only [Option.map_eq_some_iff] at e
      obtain ⟨m', hm, rfl⟩ := e
      exact .scr p (fun q => m (sub_mu q)) (frz_all (Rep.frz_ S f) q hm)
    | ref ek =>
      dsimp only at e
      have ek : (l ++ ν)[_]? = some _ := ek
      split at e
      · rename_i hk; cases e
        rw [List.getElem?_append_left hk] at ek
        exact .ref ek
      · rename_i hk
        simp only [Option.bind_eq_some_iff, Option.map_eq_some_iff] at e
        obtain ⟨l', el, m', hm, rfl⟩ := e
        obtain ⟨l'', vs, el'', p, q⟩ := S.at_ _ _ ek
        rw [el] at el''; cases el''
        refine .lst p (fun q => ?_) (frz_all (Rep.frz_ S f) q hm)
        rcases q with q | q
        · obtain ⟨j, ej⟩ := List.mem_iff_getElem?.mp q
          have hj : j < l.length := (List.getElem?_eq_some_iff.mp ej).1
          have ej' := (List.getElem?_append_left (l₂ := ν) hj).trans ej
          have := nodup_idx S.nd ej' ek
          omega
        · exact S.sep _ q (List.mem_of_getElem? ek)
theorem finish_ok {d d' : D} {σ' : Sto} {v : Value} {n : Nat} (S : St h₀ h ⟨l ++ ν, r⟩ σ) (q : Rep h ⟨l ++ ν, r⟩ v d) (hn : l.length = n) (e : finish n d σ = some (d', σ')) : St h₀ h ⟨l, r⟩ σ' ∧ Rep h ⟨l, r⟩ v d' := by
  subst hn
  unfold finish at e
  have hlen : (l ++ ν).length = σ.length := S.len
  split at e
  · rename_i hs
    have : ν = [] := by
      rw [List.length_append] at hlen
      exact List.length_eq_zero_iff.mp (by omega)
    subst this
    cases e
    rw [List.append_nil] at S q
    exact ⟨S, q⟩
  · simp only [Option.bind_eq_some_iff, Option.map_eq_some_iff] at e
    obtain ⟨d₁, hd, σ₁, hσ, e⟩ := e
    cases e
    refine ⟨⟨S.base, ?_, ?_, fun a ha => S.lo a (sub_mu ha), fun k a ek => ?_, S.res, fun a ha hm => S.sep a ha (List.mem_append_left _ hm)⟩, Rep.frz_ S 8 v d _ q hd⟩
    · have := (omap_get hσ).1
      rw [this, List.length_take]
      show l.length = _
      rw [List.length_append] at hlen; omega
    · exact (List.nodup_append.mp S.nd).1
    · have ek : l[k]? = some a := ek
      have hk : k < l.length := (List.getElem?_eq_some_iff.mp ek).1
      obtain ⟨l', vs, el, p, q'⟩ := S.at_ k a (by show (l ++ ν)[k]? = _; rw [List.getElem?_append_left hk]; exact ek)
      obtain ⟨m', hm, hf⟩ := (omap_get hσ).2 k l' (by rw [List.getElem?_take_of_lt hk]; exact el)
      exact ⟨m', vs, hm, p, frz_all (Rep.frz_ S 8) q' hf⟩
end
structure FnOk (sh : Sh) (scope : Scope) (ps : List Str) : Prop where
  kind : scope.kind = .function
  nds : sh.ns.Nodup
  gs : ∀ x ∈ sh.gs, scope.names.lookup x = some .globalImplicit
  ls : ∀ x ∈ sh.ls, scope.names.lookup x = some .local
  cw : ∀ x ∈ sh.cw, scope.names.lookup x = some .cell
  cs : ∀ x ∈ sh.cs, scope.names.lookup x = some .cell
  nd : (scope.names.map (·.1)).Nodup
  pre : ps = sh.ns.take ps.length
  par : ∀ x ∈ ps, scope.names.lookup x = some .local ∨ scope.names.lookup x = some .cell
  co : scope.isCoroutine = false
  gen : scope.isGenerator = false
noncomputable def fnOk (sh : Sh) (scope : Scope) (ps : List Str) : Bool :=
  scope.kind == .function && decide sh.ns.Nodup && (sh.gs.all fun x => scope.names.lookup x == some .globalImplicit) && (sh.ls.all fun x => scope.names.lookup x == some .local) &&
  (sh.cw.all fun x => scope.names.lookup x == some .cell) && (sh.cs.all fun x => scope.names.lookup x == some .cell) && decide ((scope.names.map (·.1)).Nodup) && (ps == sh.ns.take ps.length) &&
  (ps.all fun x => scope.names.lookup x == some .local || scope.names.lookup x == some .cell) && !scope.isCoroutine && !scope.isGenerator
theorem FnOk.of {sh scope ps} (h : fnOk sh scope ps = true) : FnOk sh scope ps := by
  simp only [fnOk, Bool.and_eq_true, beq_iff_eq, decide_eq_true_eq, List.all_eq_true, Bool.or_eq_true, Bool.not_eq_true'] at h
  obtain ⟨⟨⟨⟨⟨⟨⟨⟨⟨⟨h1, h2⟩, h3⟩, h4⟩, h5⟩, h6⟩, h7⟩, h8⟩, h9⟩, h10⟩, h11⟩ := h
  exact ⟨h1, h2, h3, h4, h5, h6, h7, h8, h9, h10, h11⟩
theorem bindL_out {kd : Str → Option NameKind} {x : Str} : ∀ (binds : List (Str × Value)) (m : Str → Option Value), (∀ p ∈ binds, p.1 ≠ x) → bindL kd binds m x = m x
  | [], m, _ => rfl
  | (n, v) :: r, m, h => by
    unfold bindL
    rw [bindL_out r _ fun p hp => h p (.tail _ hp)]
    split
    · dsimp only; rw [if_neg]; exact fun e => h (n, v) (.head _) e.symm
    · rfl
theorem bindC_out {kd : Str → Option NameKind} {x : Str} : ∀ (binds : List (Str × Value)) (m : Str → Option Value), (∀ p ∈ binds, p.1 ≠ x) → bindC kd binds m x = m x
  | [], m, _ => rfl
  | (n, v) :: r, m, h => by
    unfold bindC
    rw [bindC_out r _ fun p hp => h p (.tail _ hp)]
    split
    · rfl
    · dsimp only; rw [if_neg]; exact fun e => h (n, v) (.head _) e.symm
theorem bindL_at {kd : Str → Option NameKind} {x : Str} {v : Value} (hk : kd x = some .local) : ∀ (binds : List (Str × Value)) (m : Str → Option Value), (binds.map (·.1)).Nodup → (x, v) ∈ binds → bindL kd binds m x = some v
  | [], m, _, h => nomatch h
  | (n, u) :: r, m, hn, h => by
    rw [List.map_cons, List.nodup_cons] at hn
    unfold bindL
    rcases List.mem_cons.mp h with q | q
    · cases q
      rw [bindL_out r _ fun p hp e => hn.1 (List.mem_map.mpr ⟨p, hp, e⟩), if_pos hk, if_pos rfl]
    · exact bindL_at hk r _ hn.2 q
theorem bindC_at {kd : Str → Option NameKind} {x : Str} {v : Value} (hk : kd x ≠ some .local) : ∀ (binds : List (Str × Value)) (m : Str → Option Value), (binds.map (·.1)).Nodup → (x, v) ∈ binds → bindC kd binds m x = some v
  | [], m, _, h => nomatch h
  | (n, u) :: r, m, hn, h => by
    rw [List.map_cons, List.nodup_cons] at hn
    unfold bindC
    rcases List.mem_cons.mp h with q | q
    · cases q
      rw [bindC_out r _ fun p hp e => hn.1 (List.mem_map.mpr ⟨p, hp, e⟩), if_neg hk, if_pos rfl]
    · exact bindC_at hk r _ hn.2 q
section
variable {prog : Program} {w : World} {h₀ : Heap} {n : Nat} {sh : Sh} {mg mb : Str → Option Value}
theorem callOk_of {x : Str} {params : Arguments} {body : List Stmt} {scope : Scope} {ps : List Str} {c : SCmd} (W : Wd h₀ mg mb)
    (hfn : ∃ a o pm code doc, mg x = some (.ref a) ∧ h₀.get? a = some o ∧ o.data = .func (Calls.docDef x params body scope pm code doc) ∧ h₀.CodeRec code x)
    (hbind : ∀ pm cd doc vs, vs.length = ps.length → bindArgs (Calls.docDef x params body scope pm cd doc) ⟨vs, []⟩ = pure (ps.zip vs))
    (fok : FnOk sh scope ps) (HB : SndB prog w h₀ n sh body c) : CallOk prog w h₀ mg (n + 1) x (mkFn ps.length sh.ns.length c) := by
  obtain ⟨a, o, pm, code, doc, hm, ho, hd, hcode⟩ := hfn
  refine ⟨a, o, _, hm, ho, hd, fun A s μ σ vs ds d σ' hA S r hF => ?_⟩
  unfold mkFn at hF
  split at hF
  case isFalse => cases hF
  rename_i hlen
  simp only [Option.bind_eq_some_iff] at hF
  obtain ⟨⟨fl, Γ', σ₁⟩, hc, hF⟩ := hF
  have hvl : vs.length = ps.length := by rw [r.length, hlen]
  have cellLook : ∀ y, scope.names.lookup y = some .cell → ∃ c, (cellsFrom (s.heap.objs.size + 1) scope.names []).lookup y = some c := fun y hy => by
    obtain ⟨c, hc, _⟩ := cf_own (x := y) scope.names (s.heap.objs.size + 1) [] fok.nd (lookup_mem hy); exact ⟨c, hc⟩
  refine call_cells (by have := hA.2.1; rw [rec_eq]; omega) (S.base _ _ ho) hd (W.lim.keeps S.base) (hcode.keeps S.base) (hbind pm code doc vs hvl) (fun y hy => ?_) (fun h₁ tk F X => ?_) fok.co fok.gen fok.kind
  · rcases fok.par y.1 (List.of_mem_zip hy).1 with q | q
    · exact .inl q
    · obtain ⟨c, hc⟩ := cellLook _ q
      exact .inr ⟨q, by rw [hc]; rfl⟩
  · have S₁ := S.keeps (s := s) F.keep
    have hA' : Room n (A.deeper (envOfC x scope s.heap.objs.size a code)) := ⟨hA.1, by have := hA.2.1; simp [Around.deeper]; omega, by have := hA.2.2; simp [Around.deeper]; omega⟩
    have none_ge : ∀ b, s.heap.objs.size ≤ b → s.heap.get? b = none := fun b hb => by
      cases e : s.heap.get? b with
      | none => rfl
      | some o => exact absurd (Heap.lt_size e) (Nat.not_lt.mpr hb)
    have hzn : ((ps.zip vs).map (·.1)).Nodup := by
      have : (ps.zip vs).map (·.1) = ps := by rw [List.map_fst_zip (by omega)]
      rw [this, fok.pre]
      exact fok.nds.sublist (List.take_sublist ..)
    have Fm₁ : Fm h₀ sh (envOfC x scope s.heap.objs.size a code) h₁ μ (ds.map some ++ List.replicate (sh.ns.length - ps.length) none) := by
      refine ⟨?_, fok.kind, rfl, rfl, fok.gs, fok.nds, fok.ls, fun y hy => ⟨fok.cw y hy, cellLook y (fok.cw y hy)⟩, fun y hy => ⟨.inl (fok.cs y hy), cellLook y (fok.cs y hy)⟩, fun y c hc => ⟨_, X.cell y c hc⟩,
        fun y z c hy hz => name_of_addr X.apart (mem_of_lookup hy) (mem_of_lookup hz), _, F.ns, fun i y e h1 h2 => ?_⟩
      · rintro b (rfl | ⟨y, _, hl⟩)
        · exact S.base_none (none_ge _ (Nat.le_refl _))
        · exact S.base_none (none_ge _ (Nat.le_of_lt (X.above y b (mem_of_lookup hl))))
      · have hi : i < ds.length := by
          by_cases hi : i < ds.length
          · exact hi
          · rw [List.getElem?_append_right (by simp; omega)] at h2
            have := List.getElem?_eq_some_iff.mp h2
            simp at this
        rw [List.getElem?_append_left (by simpa using hi), List.getElem?_map] at h2
        have hdi : ds[i]? = some e := by
          cases hq : ds[i]? with
          | none => rw [hq] at h2; cases h2
          | some q => rw [hq] at h2; simp at h2; rw [h2]
        obtain ⟨v, hv, rv⟩ := r.get hdi
        have hpi : ps[i]? = some y := by
          rw [fok.pre, List.getElem?_take_of_lt (by omega)]; exact h1
        have hmem : (y, v) ∈ ps.zip vs := List.mem_of_getElem? (by rw [List.getElem?_zip_eq_some]; exact ⟨hpi, hv⟩)
        refine ⟨v, rv.ext (NoSeq.no _) S₁.2, ?_⟩
        rcases fok.par y (List.mem_of_getElem? hpi) with q | q
        · exact .inl ⟨q, bindL_at q _ _ hzn hmem⟩
        · obtain ⟨c, hc⟩ := cellLook y q
          refine .inr ⟨.inl q, c, hc, ?_⟩
          have := X.cell y c hc
          rw [bindC_at (kd := (envOfC x scope s.heap.objs.size a code).kindOf) (by show scope.names.lookup y ≠ _; rw [q]; simp) _ _ hzn hmem] at this
          exact this
    refine wpAny_mono (HB _ _ { s with heap := h₁, toks := tk } μ _ σ fl Γ' σ₁ _ hA' S₁.1 Fm₁ hc) (fun f s' p => ?_) fun _ _ e => e
    obtain ⟨h₂, tk₂, μ₂, rfl, x₂, S₂, F₂, hf⟩ := p
    have own : ∀ b, Own sh (envOfC x scope s.heap.objs.size a code) b → s.heap.get? b = none := fun b q => by
      rcases q with rfl | ⟨y, _, hl⟩
      · exact none_ge _ (Nat.le_refl _)
      · exact none_ge _ (Nat.le_of_lt (X.above y b (mem_of_lookup hl)))
    obtain ⟨ν, e, hν⟩ := x₂.pre
    subst e
    have xf : Ext No s.heap μ h₂ μ := ⟨fun b o e hb _ => x₂.keep b o (F.keep b o e) hb fun q => (by rw [own b q] at e; cases e), [], add_nil μ, by simp⟩
    have fin : ∀ {v d₁}, Rep h₂ (μ.add ν) v d₁ → finish σ.length d₁ σ₁ = some (d, σ') → PostE h₀ s μ σ' d v { s with heap := h₂, toks := tk₂ } := fun {v d₁} hv he => by
      obtain ⟨S', r'⟩ := finish_ok (l := μ.l) (ν := ν) (r := μ.r) S₂ hv S.len he
      exact ⟨h₂, tk₂, μ, rfl, xf, S', r'⟩
    cases fl with
    | next => cases hf; exact ⟨_, rfl, fin .none hF⟩
    | ret d₁ => obtain ⟨v, rfl, hv⟩ := hf; exact ⟨_, rfl, fin hv hF⟩
    | brk => cases hF
    | cont => cases hF
theorem CallOk.mono_ {x : Str} {F : Fn} {m : Nat} (H : CallOk prog w h₀ mg n x F) (h : n ≤ m) : CallOk prog w h₀ mg m x F := by
  obtain ⟨a, o, fd, h1, h2, h3, h4⟩ := H
  exact ⟨a, o, fd, h1, h2, h3, fun A s μ σ vs ds d σ' hA => h4 A s μ σ vs ds d σ' (hA.mono h)⟩
end
end Mine
-- F14
namespace Mine
open PySem PySem.W PyProof.Rows
section
variable {prog : Program} {w : World} {h₀ : Heap} {n : Nat} {sh sh' : Sh} {mg mb : Str → Option Value}
theorem compStart_1 {elt t0 i0 t1 i1 : Expr} {scope : Scope} {pos : Pos} {it acc : Value} {env : Env} {A : Around} {s : Shared} {R : Result → Shared → Prop}
    (h0 : codeAny (model prog w) A (.compLoop (.ListComp elt [⟨t0, i0, [], 0⟩, ⟨t1, i1, [], 0⟩] scope pos) 1 it acc env) R s)
    (h : wpAny (model prog w) A (pyIter it) (fun it' s' => codeAny (model prog w) A (.compLoop (.ListComp elt [⟨t0, i0, [], 0⟩, ⟨t1, i1, [], 0⟩] scope pos) 1 it' acc env) R s')
      (notedBy (model prog w) A env fun x s' => R (.error x) s') s) :
    codeAny (model prog w) A (.compStart (.ListComp elt [⟨t0, i0, [], 0⟩, ⟨t1, i1, [], 0⟩] scope pos) 1 it acc env) R s := by
  refine codeAny_of_tree ?_
  show wpAny _ _ ((compStart (.ListComp elt [⟨t0, i0, [], 0⟩, ⟨t1, i1, [], 0⟩] scope pos) 1 it acc env).onRaise (fun x => do noteFrame x env; standAt theWindowsPlace)) _ _ s
  refine wpAny_notedAt ?_
  unfold compStart
  show wpAny _ _ (ask >>= _) _ _ s
  refine wpAny_bind (wpAny_askSetting (wpAny_ite ?_))
  split
  · first
      | exact wpAny_bind (wpAny_pure (wpAny_pure (And.intro rfl h0)))
      | exact wpAny_pure (And.intro rfl h0)
  · refine wpAny_bind (wpAny_rule ?_)
    show wpAny _ _ (standAt i1.pos >>= _) _ _ s
    exact wpAny_bind (wpAny_standAt (wpAny_bind (wpAny_mono h (fun it' s' h' => wpAny_pure (And.intro rfl h')) fun _ _ x => x)))
theorem turn2_1 (elt t0 i0 t1 i1 : Expr) (scope : Scope) (pos : Pos) (it acc : Value) (env : Env) : ∀ A E (Q : Fin → Shared → Prop) s, wpAny (model prog w) A (pyNext it) (fun r s₁ => match r with
        | none => Q (.done .next) s₁
        | some v => wpAny (model prog w) A (letOwnedTupleGo t1 it v) (fun _ s₂ => wpAny (model prog w) A (assign t1 env v) (fun _ s₃ =>
            wpAny (model prog w) A (eval elt env) (fun x s₁ => wpAny (model prog w) A (call (.builtin "list.append") [acc, x]) (fun _ s₄ => Q (.again (.compLoop (.ListComp elt [⟨t0, i0, [], 0⟩, ⟨t1, i1, [], 0⟩] scope pos) 1 it acc env)) s₄) E s₁) E s₃) E s₂) E s₁) E s →
      wpAny (model prog w) A (compTurn (.ListComp elt [⟨t0, i0, [], 0⟩, ⟨t1, i1, [], 0⟩] scope pos) 1 it acc env) Q E s := by
  intro A E Q s h
  have e : compTurn (.ListComp elt [⟨t0, i0, [], 0⟩, ⟨t1, i1, [], 0⟩] scope pos) 1 it acc env = (standAt i1.pos >>= fun _ => pyNext it >>= fun r => match r with
      | none => pure (.done .next)
      | some v => letOwnedTupleGo t1 it v >>= fun _ => assign t1 env v >>= fun _ =>
        (eval elt env >>= fun x => call (.builtin "list.append") [acc, x] >>= fun _ => pure ()) >>= fun _ =>
          again (.compLoop (.ListComp elt [⟨t0, i0, [], 0⟩, ⟨t1, i1, [], 0⟩] scope pos) 1 it acc env)) := by rfl
  rw [e]
  refine wpAny_bind (wpAny_standAt (wpAny_bind (wpAny_mono h (fun r s₁ h₁ => ?_) fun _ _ e => e)))
  cases r with
  | none => exact wpAny_pure h₁
  | some v =>
    refine wpAny_bind (wpAny_mono h₁ (fun _ s₂ h₂ => wpAny_bind (wpAny_mono h₂ (fun _ s₃ h₃ => ?_) fun _ _ e => e)) fun _ _ e => e)
    exact wpAny_bind (wpAny_bind (wpAny_mono h₃ (fun x s₄ h₄ => wpAny_bind (wpAny_mono h₄ (fun _ s₅ h₅ => wpAny_pure (wpAny_pure h₅)) fun _ _ e => e)) fun _ _ e => e))
noncomputable def bodyIn (prog : Program) (w : World) (elt t0 i0 t1 i1 : Expr) (scope : Scope) (pos : Pos) (env : Env) (acc : Addr) (A : Around) (Q : Shared → Prop) (E : Value → Shared → Prop) (s : Shared) : Prop :=
  wpAny (model prog w) A (eval i1 env) (fun x s₁ => wpAny (model prog w) A (pyIter x) (fun it s₂ =>
    codeAny (model prog w) A (.compStart (.ListComp elt [⟨t0, i0, [], 0⟩, ⟨t1, i1, [], 0⟩] scope pos) 1 it (.ref acc) env) (fun r s' => match r with | .ok _ => Q s' | .error e => cameBackBy (model prog w) A env E e s') s₂) E s₁) E s
theorem turn2_0 (elt t0 i0 t1 i1 : Expr) (scope : Scope) (pos : Pos) (hs : ∀ env x, foldedSetIterable i1 env x = pure x) (env : Env) (acc I : Addr) : ∀ A E (Q : Fin → Shared → Prop) s, wpAny (model prog w) A (pyNext (.ref I)) (fun r s₁ => match r with
        | none => Q (.done .next) s₁
        | some v => wpAny (model prog w) A (letOwnedTupleGo t0 (.ref I) v) (fun _ s₂ => wpAny (model prog w) A (assign t0 env v) (fun _ s₃ =>
            bodyIn prog w elt t0 i0 t1 i1 scope pos env acc A (fun s₄ => Q (.again (.compLoop (.ListComp elt [⟨t0, i0, [], 0⟩, ⟨t1, i1, [], 0⟩] scope pos) 0 (.ref I) (.ref acc) env)) s₄) E s₃) E s₂) E s₁) E s →
      wpAny (model prog w) A (compTurn (.ListComp elt [⟨t0, i0, [], 0⟩, ⟨t1, i1, [], 0⟩] scope pos) 0 (.ref I) (.ref acc) env) Q E s := by
  intro A E Q s h
  have e : compTurn (.ListComp elt [⟨t0, i0, [], 0⟩, ⟨t1, i1, [], 0⟩] scope pos) 0 (.ref I) (.ref acc) env = (standAt i0.pos >>= fun _ => pyNext (.ref I) >>= fun r => match r with
      | none => pure (.done .next)
      | some v => letOwnedTupleGo t0 (.ref I) v >>= fun _ => assign t0 env v >>= fun _ =>
        eval i1 env >>= fun x => standAt i1.pos >>= fun _ => foldedSetIterable i1 env x >>= fun x => holding [x] (pyIter x) >>= fun it =>
        runOwn (.compStart (.ListComp elt [⟨t0, i0, [], 0⟩, ⟨t1, i1, [], 0⟩] scope pos) 1 it (.ref acc) env) env >>= fun _ =>
          again (.compLoop (.ListComp elt [⟨t0, i0, [], 0⟩, ⟨t1, i1, [], 0⟩] scope pos) 0 (.ref I) (.ref acc) env)) := by rfl
  rw [e]
  refine wpAny_bind (wpAny_standAt (wpAny_bind (wpAny_mono h (fun r s₁ h₁ => ?_) fun _ _ e => e)))
  cases r with
  | none => exact wpAny_pure h₁
  | some v =>
    refine wpAny_bind (wpAny_mono h₁ (fun _ s₂ h₂ => wpAny_bind (wpAny_mono h₂ (fun _ s₃ h₃ => ?_) fun _ _ e => e)) fun _ _ e => e)
    refine wpAny_bind (wpAny_mono h₃ (fun x s₄ h₄ => wpAny_bind (wpAny_standAt ?_)) fun _ _ e => e)
    rw [hs]
    refine wpAny_bind (wpAny_pure (wpAny_bind (wpAny_holding (wpAny_mono h₄ (fun it s₅ h₅ => wpAny_bind (wpAny_runOwn ?_)) fun _ _ e => e))))
    exact codeAny_mono (A := A) h₅ fun r s' hr => by
      cases r with
      | ok f => exact wpAny_pure hr
      | error x => exact hr
theorem body_in {elt t0 i0 t1 i1 : Expr} {scope : Scope} {pos : Pos} {en : Bool} {c : ICmd} {t : TCmd} {a : Cmd} (hen : en = true → ∃ es k p, t1 = Expr.Tuple es k p) (HI : SndI prog w h₀ n sh i1 en c) (HT : SndT prog w h₀ n sh t1 t) (HE : Snd prog w h₀ n sh elt a)
    (env : Env) (acc : Addr) : BodyOk h₀ n sh env acc (bodyIn prog w elt t0 i0 t1 i1 scope pos env acc) (fIn c t (fElt a)) := by
  intro A s μ Γ σ ws es es' Γ' σ' E Q hA S ha F hp r hl hc k
  simp only [fIn, Option.bind_eq_some_iff] at hc
  obtain ⟨⟨ds, σ₁⟩, e₁, e₂⟩ := hc
  unfold bodyIn
  refine wpAny_mono (HI A env s μ Γ σ ds σ₁ E hA S F e₁) (fun x s₁ hx => wpAny_mono hx (fun it s₂ p => ?_) fun _ _ e => e) fun _ _ e => e
  obtain ⟨I, X, J, h₁, tk₁, μ₁, rfl, rfl, x₁, S₁, it, j0, hX⟩ := p
  have F₁ := F.ext S (Flds.no _) x₁
  obtain ⟨kk, ea⟩ := hp
  have ea₁ := x₁.keep _ _ ea (S.sep _ ha) (fun f => f)
  have key : codeAny (model prog w) A (.compLoop (.ListComp elt [⟨t0, i0, [], 0⟩, ⟨t1, i1, [], 0⟩] scope pos) 1 (.ref I) (.ref acc) env)
      (fun r s' => match r with | .ok _ => Q s' | .error e => cameBackBy (model prog w) A env E e s') { s with heap := h₁, toks := tk₁ } := by
    refine compLoop_ok (turn2_1 elt t0 i0 t1 i1 scope pos _ _ env) it hen HT (body_elt HE) (s := { s with heap := h₁, toks := tk₁ }) hA S₁ (acc_r x₁ ha) F₁ ⟨kk, ea₁⟩ (r.ext (NoSeq.no _) x₁) hl j0 e₂ (fun a hXa hm => ?_) fun s' p => k s' ?_
    · obtain ⟨o, xs, m, e, hd⟩ := S₁.isList hm
      obtain ⟨vs, hv⟩ := it.flds _ _ _ j0 a o hXa e
      rw [hd] at hv; cases hv
    · obtain ⟨h', tk', μ', ws', rfl, x, S', F', hp', r'⟩ := p
      have z : Ext (fun b => Own sh env b ∨ X b ∨ b = acc) s.heap μ h' μ' := x₁.of.trans x
      refine ⟨h', tk', μ', ws', rfl, ⟨fun b o e hb hn => z.keep b o e hb fun q => ?_, ?_⟩, S', F', hp', r'⟩
      · rcases q with q | q | q
        · exact hn (.inl q)
        · rw [hX b q] at e; cases e
        · exact hn (.inr (.inr q))
      · obtain ⟨ν, e, hν⟩ := z.pre
        exact ⟨ν, e, fun b hb => ⟨(hν b hb).1, (hν b hb).2.elim .inl fun q => q.elim (fun q => .inr (.inl q)) fun q => q.elim (fun q => .inl (hX b q)) fun q => .inr (.inr (.inr q))⟩⟩
  exact compStart_1 key (it.self _ _ 0 _ _ _ j0 key)
/-- [elt for t in iter] -/
theorem Snd.lc {elt tgt iter : Expr} {scope : Scope} {pos : Pos} {mp : List (Option Nat)} {en : Bool} {c : ICmd} {t : TCmd} {a : Cmd} (ok : CompOk sh sh' scope mp) (hs : ∀ env x, foldedSetIterable iter env x = pure x) (hen : en = true → ∃ es k p, tgt = Expr.Tuple es k p)
    (HI : SndI prog w h₀ n sh iter en c) (HT : SndT prog w h₀ n sh' tgt t) (HE : Snd prog w h₀ n sh' elt a) : Snd prog w h₀ n sh (.ListComp elt [⟨tgt, iter, [], 0⟩] scope pos) (cComp mp c t (fElt a)) :=
  (snd_comp ok hs hen (fun env acc I => turn_elt elt tgt iter scope pos _ _ env) HI HT (fun env acc => body_elt HE)).1
theorem Snd.lcR {elt tgt iter : Expr} {scope : Scope} {pos : Pos} {mp : List (Option Nat)} {en : Bool} {c : ICmd} {t : TCmd} {a : Cmd} (ok : CompOk sh sh' scope mp) (hs : ∀ env x, foldedSetIterable iter env x = pure x) (hen : en = true → ∃ es k p, tgt = Expr.Tuple es k p)
    (HI : SndI prog w h₀ n sh iter en c) (HT : SndT prog w h₀ n sh' tgt t) (HE : Snd prog w h₀ n sh' elt a) : Snd prog w h₀ n sh (.ListComp elt [⟨tgt, iter, [], 0⟩] scope pos) (cCompR mp c t (fElt a)) :=
  (snd_comp ok hs hen (fun env acc I => turn_elt elt tgt iter scope pos _ _ env) HI HT (fun env acc => body_elt HE)).2
theorem Snd.lcIf {elt tgt iter cnd : Expr} {scope : Scope} {pos : Pos} {mp : List (Option Nat)} {en : Bool} {c : ICmd} {t : TCmd} {a : Cmd} {q : QCmd} (ok : CompOk sh sh' scope mp) (hs : ∀ env x, foldedSetIterable iter env x = pure x) (hen : en = true → ∃ es k p, tgt = Expr.Tuple es k p)
    (HI : SndI prog w h₀ n sh iter en c) (HT : SndT prog w h₀ n sh' tgt t) (HQ : SndQ prog w h₀ n sh' cnd q) (HE : Snd prog w h₀ n sh' elt a) : Snd prog w h₀ n sh (.ListComp elt [⟨tgt, iter, [cnd], 0⟩] scope pos) (cComp mp c t (fIf q a)) :=
  (snd_comp ok hs hen (fun env acc I => turn_if elt tgt iter cnd scope pos _ _ env) HI HT (fun env acc => body_if HQ HE)).1
theorem SndS.lc {i : Nat} {x : Str} {px : Pos} {elt tgt iter : Expr} {scope : Scope} {pos cpos : Pos} {mp : List (Option Nat)} {en : Bool} {c : ICmd} {t : TCmd} {a : Cmd} (ok : CompOk sh sh' scope mp) (hs : ∀ env x, foldedSetIterable iter env x = pure x) (hen : en = true → ∃ es k p, tgt = Expr.Tuple es k p)
    (HI : SndI prog w h₀ n sh iter en c) (HT : SndT prog w h₀ n sh' tgt t) (HE : Snd prog w h₀ n sh' elt a) (hi : sh.ns[i]? = some x) (hx : x ∈ sh.ls ∨ x ∈ sh.cw) :
    SndS prog w h₀ n sh (.Assign [.Name x px] (.ListComp elt [⟨tgt, iter, [], 0⟩] scope cpos) pos) (sAssign (cComp mp c t (fElt a)) (tVar i)) :=
  snds_comp ok hs hen (fun env acc I => turn_elt elt tgt iter scope cpos _ _ env) HI HT (fun env acc => body_elt HE) hi hx
theorem SndS.lcIf {i : Nat} {x : Str} {px : Pos} {elt tgt iter cnd : Expr} {scope : Scope} {pos cpos : Pos} {mp : List (Option Nat)} {en : Bool} {c : ICmd} {t : TCmd} {a : Cmd} {q : QCmd} (ok : CompOk sh sh' scope mp) (hs : ∀ env x, foldedSetIterable iter env x = pure x) (hen : en = true → ∃ es k p, tgt = Expr.Tuple es k p)
    (HI : SndI prog w h₀ n sh iter en c) (HT : SndT prog w h₀ n sh' tgt t) (HQ : SndQ prog w h₀ n sh' cnd q) (HE : Snd prog w h₀ n sh' elt a) (hi : sh.ns[i]? = some x) (hx : x ∈ sh.ls ∨ x ∈ sh.cw) :
    SndS prog w h₀ n sh (.Assign [.Name x px] (.ListComp elt [⟨tgt, iter, [cnd], 0⟩] scope cpos) pos) (sAssign (cComp mp c t (fIf q a)) (tVar i)) :=
  snds_comp ok hs hen (fun env acc I => turn_if elt tgt iter cnd scope cpos _ _ env) HI HT (fun env acc => body_if HQ HE) hi hx
theorem SndS.lc2 {i : Nat} {x : Str} {px : Pos} {elt t0 i0 t1 i1 : Expr} {scope : Scope} {pos cpos : Pos} {mp : List (Option Nat)} {en en' : Bool} {c c' : ICmd} {t t' : TCmd} {a : Cmd} (ok : CompOk sh sh' scope mp) (hs : ∀ env x, foldedSetIterable i0 env x = pure x) (hs' : ∀ env x, foldedSetIterable i1 env x = pure x)
    (hen : en = true → ∃ es k p, t0 = Expr.Tuple es k p) (hen' : en' = true → ∃ es k p, t1 = Expr.Tuple es k p)
    (HI : SndI prog w h₀ n sh i0 en c) (HT : SndT prog w h₀ n sh' t0 t) (HI' : SndI prog w h₀ n sh' i1 en' c') (HT' : SndT prog w h₀ n sh' t1 t') (HE : Snd prog w h₀ n sh' elt a) (hi : sh.ns[i]? = some x) (hx : x ∈ sh.ls ∨ x ∈ sh.cw) :
    SndS prog w h₀ n sh (.Assign [.Name x px] (.ListComp elt [⟨t0, i0, [], 0⟩, ⟨t1, i1, [], 0⟩] scope cpos) pos) (sAssign (cComp mp c t (fIn c' t' (fElt a))) (tVar i)) :=
  snds_comp ok hs hen (turn2_0 elt t0 i0 t1 i1 scope cpos hs') HI HT (body_in hen' HI' HT' HE) hi hx
end
end Mine
-- F15
namespace Mine
open PySem PySem.W PyProof.Rows
/-- the def at a place of the text -/
noncomputable def rc (k : Nat) : DefRec := match PySem.Challenge.pw_xm0136_01.main.body[k]? with
  | some (.FunctionDef n p b _ _ _ s _ _ q) => ⟨n, p, b, s, q⟩
  | _ => ⟨Str.ofString "", { posonlyargs := [], args := [], vararg := none, kwonlyargs := [], kw_defaults := [], kwarg := none, defaults := [] }, [], { kind := .function, names := [], isGenerator := false, isCoroutine := false }, ⟨0, 0, 0, 0⟩⟩
noncomputable def Fn_ (h₀ : Heap) (mg : Str → Option Value) (r : DefRec) : Prop :=
  ∃ a o pm code doc, mg r.name = some (.ref a) ∧ h₀.get? a = some o ∧ o.data = .func (Calls.docDef r.name r.params r.body r.scope pm code doc) ∧ h₀.CodeRec code r.name
noncomputable def mkFnK (k m : Nat) (c : SCmd) : Fn := fun ds σ => if ds.length = k then (c (ds.map some ++ List.replicate (m - k) none) σ).bind fun r => match r.1 with
    | .ret d => some (d, r.2.2)
    | .next => some (.none, r.2.2)
    | _ => none
  else none
section
variable {x : Str} {params : Arguments} {body : List Stmt} {scope : Scope} {p0 p1 p2 p3 : Str}
theorem bind1 (h : ∀ pm cd doc v0, bindArgs (Calls.docDef x params body scope pm cd doc) ⟨[v0], []⟩ = pure [(p0, v0)]) (pm cd doc : Value) (vs : List Value) (hl : vs.length = [p0].length) :
    bindArgs (Calls.docDef x params body scope pm cd doc) ⟨vs, []⟩ = pure ([p0].zip vs) := by
  rcases vs with _ | ⟨v0, _ | ⟨v1, vs⟩⟩
  · cases hl
  · exact h pm cd doc v0
  · simp at hl
theorem bind2 (h : ∀ pm cd doc v0 v1, bindArgs (Calls.docDef x params body scope pm cd doc) ⟨[v0, v1], []⟩ = pure [(p0, v0), (p1, v1)]) (pm cd doc : Value) (vs : List Value) (hl : vs.length = [p0, p1].length) :
    bindArgs (Calls.docDef x params body scope pm cd doc) ⟨vs, []⟩ = pure ([p0, p1].zip vs) := by
  rcases vs with _ | ⟨v0, _ | ⟨v1, _ | ⟨v2, vs⟩⟩⟩
  · cases hl
  · simp at hl
  · exact h pm cd doc v0 v1
  · simp at hl
theorem bind3 (h : ∀ pm cd doc v0 v1 v2, bindArgs (Calls.docDef x params body scope pm cd doc) ⟨[v0, v1, v2], []⟩ = pure [(p0, v0), (p1, v1), (p2, v2)]) (pm cd doc : Value) (vs : List Value) (hl : vs.length = [p0, p1, p2].length) :
    bindArgs (Calls.docDef x params body scope pm cd doc) ⟨vs, []⟩ = pure ([p0, p1, p2].zip vs) := by
  rcases vs with _ | ⟨v0, _ | ⟨v1, _ | ⟨v2, _ | ⟨v3, vs⟩⟩⟩⟩
  · cases hl
  · simp at hl
  · simp at hl
  · exact h pm cd doc v0 v1 v2
  · simp at hl
theorem bind4 (h : ∀ pm cd doc v0 v1 v2 v3, bindArgs (Calls.docDef x params body scope pm cd doc) ⟨[v0, v1, v2, v3], []⟩ = pure [(p0, v0), (p1, v1), (p2, v2), (p3, v3)]) (pm cd doc : Value) (vs : List Value) (hl : vs.length = [p0, p1, p2, p3].length) :
    bindArgs (Calls.docDef x params body scope pm cd doc) ⟨vs, []⟩ = pure ([p0, p1, p2, p3].zip vs) := by
  rcases vs with _ | ⟨v0, _ | ⟨v1, _ | ⟨v2, _ | ⟨v3, _ | ⟨v4, vs⟩⟩⟩⟩⟩
  · cases hl
  · simp at hl
  · simp at hl
  · simp at hl
  · exact h pm cd doc v0 v1 v2 v3
  · simp at hl
end
section
variable {prog : Program} {w : World} {h₀ : Heap} {n : Nat} {sh : Sh} {mg mb : Str → Option Value}
theorem CallOk.union {x : Str} {F : Fn} {G : Nat → Fn} (H : ∀ fuel, CallOk prog w h₀ mg n x (G fuel)) (hF : ∀ ds σ r, F ds σ = some r → ∃ fuel, G fuel ds σ = some r) : CallOk prog w h₀ mg n x F := by
  obtain ⟨a, o, fd, h1, h2, h3, _⟩ := H 0
  refine ⟨a, o, fd, h1, h2, h3, fun A s μ σ vs ds d σ' hA S r e => ?_⟩
  obtain ⟨fuel, hg⟩ := hF ds σ (d, σ') e
  obtain ⟨a', o', fd', h1', _, _, h4⟩ := H fuel
  rw [h1] at h1'; cases h1'
  exact h4 A s μ σ vs ds d σ' hA S r hg
theorem CallOk.sub {x : Str} {F G : Fn} (H : CallOk prog w h₀ mg n x G) (hF : ∀ ds σ r, F ds σ = some r → G ds σ = some r) : CallOk prog w h₀ mg n x F :=
  CallOk.union (fun _ => H) fun ds σ r e => ⟨0, hF ds σ r e⟩
theorem callOk_ofK {x : Str} {params : Arguments} {body : List Stmt} {scope : Scope} {ps : List Str} {c : SCmd} (W : Wd h₀ mg mb)
    (hfn : ∃ a o pm code doc, mg x = some (.ref a) ∧ h₀.get? a = some o ∧ o.data = .func (Calls.docDef x params body scope pm code doc) ∧ h₀.CodeRec code x)
    (hbind : ∀ pm cd doc vs, vs.length = ps.length → bindArgs (Calls.docDef x params body scope pm cd doc) ⟨vs, []⟩ = pure (ps.zip vs))
    (fok : FnOk sh scope ps) (HB : SndB prog w h₀ n sh body c) : CallOk prog w h₀ mg (n + 1) x (mkFnK ps.length sh.ns.length c) := by
  obtain ⟨a, o, pm, code, doc, hm, ho, hd, hcode⟩ := hfn
  refine ⟨a, o, _, hm, ho, hd, fun A s μ σ vs ds d σ' hA S r hF => ?_⟩
  unfold mkFnK at hF
  split at hF
  case isFalse => cases hF
  rename_i hlen
  simp only [Option.bind_eq_some_iff] at hF
  obtain ⟨⟨fl, Γ', σ₁⟩, hc, hF⟩ := hF
  have hvl : vs.length = ps.length := by rw [r.length, hlen]
  have cellLook : ∀ y, scope.names.lookup y = some .cell → ∃ c, (cellsFrom (s.heap.objs.size + 1) scope.names []).lookup y = some c := fun y hy => by
    obtain ⟨c, hc, _⟩ := cf_own (x := y) scope.names (s.heap.objs.size + 1) [] fok.nd (lookup_mem hy); exact ⟨c, hc⟩
  refine call_cells (by have := hA.2.1; rw [rec_eq]; omega) (S.base _ _ ho) hd (W.lim.keeps S.base) (hcode.keeps S.base) (hbind pm code doc vs hvl) (fun y hy => ?_) (fun h₁ tk F X => ?_) fok.co fok.gen fok.kind
  · rcases fok.par y.1 (List.of_mem_zip hy).1 with q | q
    · exact .inl q
    · obtain ⟨c, hc⟩ := cellLook _ q
      exact .inr ⟨q, by rw [hc]; rfl⟩
  · have S₁ := S.keeps (s := s) F.keep
    have hA' : Room n (A.deeper (envOfC x scope s.heap.objs.size a code)) := ⟨hA.1, by have := hA.2.1; simp [Around.deeper]; omega, by have := hA.2.2; simp [Around.deeper]; omega⟩
    have none_ge : ∀ b, s.heap.objs.size ≤ b → s.heap.get? b = none := fun b hb => by
      cases e : s.heap.get? b with
      | none => rfl
      | some o => exact absurd (Heap.lt_size e) (Nat.not_lt.mpr hb)
    have hzn : ((ps.zip vs).map (·.1)).Nodup := by
      have : (ps.zip vs).map (·.1) = ps := by rw [List.map_fst_zip (by omega)]
      rw [this, fok.pre]
      exact fok.nds.sublist (List.take_sublist ..)
    have Fm₁ : Fm h₀ sh (envOfC x scope s.heap.objs.size a code) h₁ μ (ds.map some ++ List.replicate (sh.ns.length - ps.length) none) := by
      refine ⟨?_, fok.kind, rfl, rfl, fok.gs, fok.nds, fok.ls, fun y hy => ⟨fok.cw y hy, cellLook y (fok.cw y hy)⟩, fun y hy => ⟨.inl (fok.cs y hy), cellLook y (fok.cs y hy)⟩, fun y c hc => ⟨_, X.cell y c hc⟩,
        fun y z c hy hz => name_of_addr X.apart (mem_of_lookup hy) (mem_of_lookup hz), _, F.ns, fun i y e h1 h2 => ?_⟩
      · rintro b (rfl | ⟨y, _, hl⟩)
        · exact S.base_none (none_ge _ (Nat.le_refl _))
        · exact S.base_none (none_ge _ (Nat.le_of_lt (X.above y b (mem_of_lookup hl))))
      · have hi : i < ds.length := by
          by_cases hi : i < ds.length
          · exact hi
          · rw [List.getElem?_append_right (by simp; omega)] at h2
            have := List.getElem?_eq_some_iff.mp h2
            simp at this
        rw [List.getElem?_append_left (by simpa using hi), List.getElem?_map] at h2
        have hdi : ds[i]? = some e := by
          cases hq : ds[i]? with
          | none => rw [hq] at h2; cases h2
          | some q => rw [hq] at h2; simp at h2; rw [h2]
        obtain ⟨v, hv, rv⟩ := r.get hdi
        have hpi : ps[i]? = some y := by
          rw [fok.pre, List.getElem?_take_of_lt (by omega)]; exact h1
        have hmem : (y, v) ∈ ps.zip vs := List.mem_of_getElem? (by rw [List.getElem?_zip_eq_some]; exact ⟨hpi, hv⟩)
        refine ⟨v, rv.ext (NoSeq.no _) S₁.2, ?_⟩
        rcases fok.par y (List.mem_of_getElem? hpi) with q | q
        · exact .inl ⟨q, bindL_at q _ _ hzn hmem⟩
        · obtain ⟨c, hc⟩ := cellLook y q
          refine .inr ⟨.inl q, c, hc, ?_⟩
          have := X.cell y c hc
          rw [bindC_at (kd := (envOfC x scope s.heap.objs.size a code).kindOf) (by show scope.names.lookup y ≠ _; rw [q]; simp) _ _ hzn hmem] at this
          exact this
    refine wpAny_mono (HB _ _ { s with heap := h₁, toks := tk } μ _ σ fl Γ' σ₁ _ hA' S₁.1 Fm₁ hc) (fun f s' p => ?_) fun _ _ e => e
    obtain ⟨h₂, tk₂, μ₂, rfl, x₂, S₂, F₂, hf⟩ := p
    have own : ∀ b, Own sh (envOfC x scope s.heap.objs.size a code) b → s.heap.get? b = none := fun b q => by
      rcases q with rfl | ⟨y, _, hl⟩
      · exact none_ge _ (Nat.le_refl _)
      · exact none_ge _ (Nat.le_of_lt (X.above y b (mem_of_lookup hl)))
    have xf : Ext No s.heap μ h₂ μ₂ := ⟨fun b o e hb _ => x₂.keep b o (F.keep b o e) hb fun q => (by rw [own b q] at e; cases e), by
      obtain ⟨ν, e, hν⟩ := x₂.pre
      refine ⟨ν, e, fun b hb => ?_⟩
      have hq := hν b hb
      refine ⟨hq.1, .inl ?_⟩
      rcases hq.2 with q | q
      · cases q' : s.heap.get? b with
        | none => rfl
        | some o =>
          have q₁ : h₁.get? b = none := q
          rw [F.keep b o q'] at q₁; cases q₁
      · exact own b q⟩
    cases fl with
    | next => cases hf; cases hF; exact ⟨_, rfl, h₂, tk₂, μ₂, rfl, xf, S₂, .none⟩
    | ret d₁ => obtain ⟨v, rfl, hv⟩ := hf; cases hF; exact ⟨_, rfl, h₂, tk₂, μ₂, rfl, xf, S₂, hv⟩
    | brk => cases hF
    | cont => cases hF
end
end Mine
-- G1
namespace Mine
open PySem PySem.W PyProof.Rows
noncomputable def sh_gcd : Sh := ⟨[Str.ofString "a", Str.ofString "b"], [Str.ofString "abs"], [Str.ofString "a", Str.ofString "b"], [], []⟩
noncomputable def c_gcd (fuel : Nat) : SCmd := (bCons (sAssign (cTup (cCons (c1 absD (cVar 0)) (cCons (c1 absD (cVar 1)) cNil))) (tTup [(tVar 0), (tVar 1)]))
  (bCons (sWhile (qVal (c2 neD (cVar 1) (cK (.int 0)))) (bCons (sAssign (cTup (cCons (cVar 1) (cCons (c2 modD (cVar 0) (cVar 1)) cNil))) (tTup [(tVar 0), (tVar 1)]))
  bNil) fuel)
  (bCons (sRet (cVar 0))
  bNil)))
noncomputable def gcdFuel (fuel : Nat) : Fn := mkFn 2 2 (c_gcd fuel)
theorem w_gcd {prog : Program} {w : World} {h₀ : Heap} {mg mb : Str → Option Value} (fuel : Nat) (W : Wd h₀ mg mb) (R : Fn_ h₀ mg (rc 3)) : CallOk prog w h₀ mg 1 (Str.ofString "gcd") (gcdFuel fuel) :=
  callOk_of (x := (Str.ofString "gcd")) (params := (rc 3).params) (body := (rc 3).body) (scope := (rc 3).scope) (ps := [(Str.ofString "a"), (Str.ofString "b")]) (sh := sh_gcd) (n := 0) W R (bind2 fun pm cd doc v0 v1 => rfl) (FnOk.of (by decide +kernel))
  (SndB.cons_ (SndS.swap (xs := [(Str.ofString "a"), (Str.ofString "b")]) (fun _ => rfl) (by intro env hk hl hc; have h0 := hl (Str.ofString "a") (by decide +kernel); have h1 := hl (Str.ofString "b") (by decide +kernel); simp only [swappedStores, Env.blockKind, hk, h0, h1, List.filterMap_cons, List.filterMap_nil]; rfl) rfl (Snd.tup (SndL.cons_ (fun _ => rfl) (Snd.bltn W W.b_abs (by decide +kernel) (by decide +kernel) abs_ok (fun _ => rfl) (Snd.var rfl (by decide +kernel) (by decide +kernel))) (SndL.cons_ (fun _ => rfl) (Snd.bltn W W.b_abs (by decide +kernel) (by decide +kernel) abs_ok (fun _ => rfl) (Snd.var rfl (by decide +kernel) (by decide +kernel))) SndL.nil_))) (swap2 rfl rfl (by decide +kernel) (by decide +kernel) (by decide +kernel)))
  (SndB.cons_ (SndS.while_ (SndQ.cmp ne_ok rfl (Snd.var rfl (by decide +kernel) (by decide +kernel)) Snd.kInt) (SndB.cons_ (SndS.swap (xs := [(Str.ofString "a"), (Str.ofString "b")]) (fun _ => rfl) (by intro env hk hl hc; have h0 := hl (Str.ofString "a") (by decide +kernel); have h1 := hl (Str.ofString "b") (by decide +kernel); simp only [swappedStores, Env.blockKind, hk, h0, h1, List.filterMap_cons, List.filterMap_nil]; rfl) rfl (Snd.tup (SndL.cons_ (fun _ => rfl) (Snd.var rfl (by decide +kernel) (by decide +kernel)) (SndL.cons_ (fun _ => rfl) (Snd.bin mod_ok (Snd.var rfl (by decide +kernel) (by decide +kernel)) (Snd.var rfl (by decide +kernel) (by decide +kernel))) SndL.nil_))) (swap2 rfl rfl (by decide +kernel) (by decide +kernel) (by decide +kernel)))
  SndB.nil_) fuel)
  (SndB.cons_ (SndS.ret (Snd.var rfl (by decide +kernel) (by decide +kernel)))
  SndB.nil_)))
noncomputable def gcdF : Fn := fun ds σ => match ds with
  | [.int a, .int b] => some (.int (Int.gcd a b : Nat), σ)
  | _ => none
noncomputable def gcdQ : QCmd := qVal (c2 neD (cVar 1) (cK (.int 0)))
noncomputable def gcdB : SCmd := bCons (sAssign (cTup (cCons (cVar 1) (cCons (c2 modD (cVar 0) (cVar 1)) cNil))) (tTup [(tVar 0), (tVar 1)])) bNil
theorem gcd_loop (σ : Sto) : ∀ (f x y : Nat), y < f → sWhile gcdQ gcdB f [some (.int x), some (.int y)] σ = some (.next, [some (.int (Nat.gcd x y)), some (.int 0)], σ)
  | 0, _, _, h => absurd h (Nat.not_lt_zero _)
  | f + 1, x, 0, h => by
    rw [Nat.gcd_zero_right]; rfl
  | f + 1, x, y + 1, h => by
    have ih := gcd_loop σ f (y + 1) (x % (y + 1)) (by have := Nat.mod_lt x (show 0 < y + 1 by omega); omega)
    have hm : modD (.int (x : Nat)) (.int ((y + 1 : Nat) : Int)) σ = some (.int ((x % (y + 1) : Nat) : Int), σ) := by
      show (if ((y + 1 : Nat) : Int) = 0 then none else some (D.int (Int.fmod (x : Nat) ((y + 1 : Nat) : Int)), σ)) = _
      rw [if_neg (by omega), Int.ofNat_fmod]
    have hq : gcdQ [some (.int (x : Nat)), some (.int ((y + 1 : Nat) : Int))] σ = some (true, σ) := rfl
    have hb : gcdB [some (.int (x : Nat)), some (.int ((y + 1 : Nat) : Int))] σ = some (.next, [some (.int ((y + 1 : Nat) : Int)), some (.int ((x % (y + 1) : Nat) : Int))], σ) := by
      unfold gcdB bCons sAssign cTup cCons c2 cVar cNil
      simp only [List.getElem?_cons_zero, List.getElem?_cons_succ, Option.bind_some, hm]
      rfl
    unfold sWhile
    rw [hq]
    simp only [Option.bind_some, if_true, hb]
    rw [ih, Nat.gcd_comm x (y + 1), Nat.gcd_rec (y + 1) x, Nat.gcd_comm]
theorem bCons_next {a b : SCmd} {Γ Γ' : Gam} {σ σ' : Sto} (h : a Γ σ = some (.next, Γ', σ')) : bCons a b Γ σ = b Γ' σ' := by
  unfold bCons; rw [h]; rfl
theorem gcd_fuel {ds : List D} {σ : Sto} {r} (e : gcdF ds σ = some r) : ∃ fuel, gcdFuel fuel ds σ = some r := by
  unfold gcdF at e
  split at e
  · rename_i a b
    cases e
    have hab : ∀ i : Int, (if i < 0 then -i else i) = ((i.natAbs : Nat) : Int) := fun i => by split <;> omega
    refine ⟨b.natAbs + 1, ?_⟩
    have := gcd_loop σ (b.natAbs + 1) a.natAbs b.natAbs (Nat.lt_succ_self _)
    have hb : sAssign (cTup (cCons (c1 absD (cVar 0)) (cCons (c1 absD (cVar 1)) cNil))) (tTup [(tVar 0), (tVar 1)]) [some (.int a), some (.int b)] σ = some (.next, [some (.int (a.natAbs : Nat)), some (.int (b.natAbs : Nat))], σ) := by
      unfold sAssign cTup cCons c1 cVar cNil absD
      simp only [List.getElem?_cons_zero, List.getElem?_cons_succ, Option.bind_some, hab]
      rfl
    have hc : c_gcd (b.natAbs + 1) [some (.int a), some (.int b)] σ = some (.ret (.int (Int.gcd a b : Nat)), [some (.int (Nat.gcd a.natAbs b.natAbs : Nat)), some (.int 0)], σ) :=
      (bCons_next hb).trans ((bCons_next this).trans rfl)
    show (c_gcd (b.natAbs + 1) [some (.int a), some (.int b)] σ).bind _ = _
    rw [hc]
    show finish σ.length (D.int _) σ = _
    unfold finish
    rw [if_pos rfl]
  · cases e
theorem w_gcdF {prog : Program} {w : World} {h₀ : Heap} {mg mb : Str → Option Value} (W : Wd h₀ mg mb) (R : Fn_ h₀ mg (rc 3)) : CallOk prog w h₀ mg 1 (Str.ofString "gcd") gcdF :=
  CallOk.union (fun fuel => w_gcd fuel W R) fun _ _ _ => gcd_fuel
end Mine
-- G2
namespace Mine
open PySem PySem.W PyProof.Rows
noncomputable def sh_rat : Sh := ⟨[Str.ofString "top", Str.ofString "bottom", Str.ofString "g"], [Str.ofString "CasFail", Str.ofString "gcd"], [Str.ofString "top", Str.ofString "bottom", Str.ofString "g"], [], []⟩
noncomputable def c_rat : SCmd := (bCons (sIf (qVal (c2 eqD (cVar 1) (cK (.int 0)))) (bCons sRaise
  bNil) bNil)
  (bCons (sAssign (cIf (qVal (c2 gtD (cVar 1) (cK (.int 0)))) (cCall gcdF (cCons (cVar 0) (cCons (cVar 1) cNil))) (c2 subD (cK (.int 0)) (cCall gcdF (cCons (cVar 0) (cCons (cVar 1) cNil))))) (tVar 2))
  (bCons (sRet (cTup (cCons (c2 divD (cVar 0) (cVar 2)) (cCons (c2 divD (cVar 1) (cVar 2)) cNil))))
  bNil)))
noncomputable def ratF : Fn := mkFn 2 3 (c_rat)
theorem w_rat {prog : Program} {w : World} {h₀ : Heap} {mg mb : Str → Option Value} (W : Wd h₀ mg mb) (R : Fn_ h₀ mg (rc 7)) (h_gcd : CallOk prog w h₀ mg 1 (Str.ofString "gcd") gcdF) : CallOk prog w h₀ mg 2 (Str.ofString "rat") (ratF) :=
  callOk_of (x := (Str.ofString "rat")) (params := (rc 7).params) (body := (rc 7).body) (scope := (rc 7).scope) (ps := [(Str.ofString "top"), (Str.ofString "bottom")]) (sh := sh_rat) (n := 1) W R (bind2 fun pm cd doc v0 v1 => rfl) (FnOk.of (by decide +kernel))
  (SndB.cons_ (SndS.if_ (SndQ.cmp eq_ok rfl (Snd.var rfl (by decide +kernel) (by decide +kernel)) Snd.kInt) (SndB.cons_ SndS.raise
  SndB.nil_) SndB.nil_)
  (SndB.cons_ (SndS.assign (fun _ => rfl) (fun _ _ _ _ => rfl) (fun _ => rfl) (Snd.ifexp (SndQ.cmp gt_ok rfl (Snd.var rfl (by decide +kernel) (by decide +kernel)) Snd.kInt) (Snd.ucall W h_gcd (by decide +kernel) (by decide +kernel) (fun _ => rfl) (SndL.cons_ (fun _ => rfl) (Snd.var rfl (by decide +kernel) (by decide +kernel)) (SndL.cons_ (fun _ => rfl) (Snd.var rfl (by decide +kernel) (by decide +kernel)) SndL.nil_))) (Snd.bin sub_ok Snd.kInt (Snd.ucall W h_gcd (by decide +kernel) (by decide +kernel) (fun _ => rfl) (SndL.cons_ (fun _ => rfl) (Snd.var rfl (by decide +kernel) (by decide +kernel)) (SndL.cons_ (fun _ => rfl) (Snd.var rfl (by decide +kernel) (by decide +kernel)) SndL.nil_))))) (SndT.var rfl (.inl (by decide +kernel))))
  (SndB.cons_ (SndS.ret (Snd.tup (SndL.cons_ (fun _ => rfl) (Snd.bin div_ok (Snd.var rfl (by decide +kernel) (by decide +kernel)) (Snd.var rfl (by decide +kernel) (by decide +kernel))) (SndL.cons_ (fun _ => rfl) (Snd.bin div_ok (Snd.var rfl (by decide +kernel) (by decide +kernel)) (Snd.var rfl (by decide +kernel) (by decide +kernel))) SndL.nil_))))
  SndB.nil_)))
noncomputable def sh_radd : Sh := ⟨[Str.ofString "a", Str.ofString "b"], [Str.ofString "rat"], [Str.ofString "a", Str.ofString "b"], [], []⟩
noncomputable def c_radd : SCmd := (bCons (sRet (cCall ratF (cCons (c2 addD (c2 mulD (c2 idxD (cVar 0) (cK (.int 0))) (c2 idxD (cVar 1) (cK (.int 1)))) (c2 mulD (c2 idxD (cVar 1) (cK (.int 0))) (c2 idxD (cVar 0) (cK (.int 1))))) (cCons (c2 mulD (c2 idxD (cVar 0) (cK (.int 1))) (c2 idxD (cVar 1) (cK (.int 1)))) cNil))))
  bNil)
noncomputable def raddF : Fn := mkFn 2 2 (c_radd)
theorem w_radd {prog : Program} {w : World} {h₀ : Heap} {mg mb : Str → Option Value} (W : Wd h₀ mg mb) (R : Fn_ h₀ mg (rc 8)) (h_rat : CallOk prog w h₀ mg 2 (Str.ofString "rat") ratF) : CallOk prog w h₀ mg 3 (Str.ofString "radd") (raddF) :=
  callOk_of (x := (Str.ofString "radd")) (params := (rc 8).params) (body := (rc 8).body) (scope := (rc 8).scope) (ps := [(Str.ofString "a"), (Str.ofString "b")]) (sh := sh_radd) (n := 2) W R (bind2 fun pm cd doc v0 v1 => rfl) (FnOk.of (by decide +kernel))
  (SndB.cons_ (SndS.ret (Snd.ucall W h_rat (by decide +kernel) (by decide +kernel) (fun _ => rfl) (SndL.cons_ (fun _ => rfl) (Snd.bin add_ok (Snd.bin mul_ok (Snd.sub (fun _ _ => rfl) (Snd.var rfl (by decide +kernel) (by decide +kernel)) Snd.kInt) (Snd.sub (fun _ _ => rfl) (Snd.var rfl (by decide +kernel) (by decide +kernel)) Snd.kInt)) (Snd.bin mul_ok (Snd.sub (fun _ _ => rfl) (Snd.var rfl (by decide +kernel) (by decide +kernel)) Snd.kInt) (Snd.sub (fun _ _ => rfl) (Snd.var rfl (by decide +kernel) (by decide +kernel)) Snd.kInt))) (SndL.cons_ (fun _ => rfl) (Snd.bin mul_ok (Snd.sub (fun _ _ => rfl) (Snd.var rfl (by decide +kernel) (by decide +kernel)) Snd.kInt) (Snd.sub (fun _ _ => rfl) (Snd.var rfl (by decide +kernel) (by decide +kernel)) Snd.kInt)) SndL.nil_))))
  SndB.nil_)
noncomputable def sh_rsub : Sh := ⟨[Str.ofString "a", Str.ofString "b"], [Str.ofString "rat"], [Str.ofString "a", Str.ofString "b"], [], []⟩
noncomputable def c_rsub : SCmd := (bCons (sRet (cCall ratF (cCons (c2 subD (c2 mulD (c2 idxD (cVar 0) (cK (.int 0))) (c2 idxD (cVar 1) (cK (.int 1)))) (c2 mulD (c2 idxD (cVar 1) (cK (.int 0))) (c2 idxD (cVar 0) (cK (.int 1))))) (cCons (c2 mulD (c2 idxD (cVar 0) (cK (.int 1))) (c2 idxD (cVar 1) (cK (.int 1)))) cNil))))
  bNil)
noncomputable def rsubF : Fn := mkFn 2 2 (c_rsub)
theorem w_rsub {prog : Program} {w : World} {h₀ : Heap} {mg mb : Str → Option Value} (W : Wd h₀ mg mb) (R : Fn_ h₀ mg (rc 9)) (h_rat : CallOk prog w h₀ mg 2 (Str.ofString "rat") ratF) : CallOk prog w h₀ mg 3 (Str.ofString "rsub") (rsubF) :=
  callOk_of (x := (Str.ofString "rsub")) (params := (rc 9).params) (body := (rc 9).body) (scope := (rc 9).scope) (ps := [(Str.ofString "a"), (Str.ofString "b")]) (sh := sh_rsub) (n := 2) W R (bind2 fun pm cd doc v0 v1 => rfl) (FnOk.of (by decide +kernel))
  (SndB.cons_ (SndS.ret (Snd.ucall W h_rat (by decide +kernel) (by decide +kernel) (fun _ => rfl) (SndL.cons_ (fun _ => rfl) (Snd.bin sub_ok (Snd.bin mul_ok (Snd.sub (fun _ _ => rfl) (Snd.var rfl (by decide +kernel) (by decide +kernel)) Snd.kInt) (Snd.sub (fun _ _ => rfl) (Snd.var rfl (by decide +kernel) (by decide +kernel)) Snd.kInt)) (Snd.bin mul_ok (Snd.sub (fun _ _ => rfl) (Snd.var rfl (by decide +kernel) (by decide +kernel)) Snd.kInt) (Snd.sub (fun _ _ => rfl) (Snd.var rfl (by decide +kernel) (by decide +kernel)) Snd.kInt))) (SndL.cons_ (fun _ => rfl) (Snd.bin mul_ok (Snd.sub (fun _ _ => rfl) (Snd.var rfl (by decide +kernel) (by decide +kernel)) Snd.kInt) (Snd.sub (fun _ _ => rfl) (Snd.var rfl (by decide +kernel) (by decide +kernel)) Snd.kInt)) SndL.nil_))))
  SndB.nil_)
noncomputable def sh_rmul : Sh := ⟨[Str.ofString "a", Str.ofString "b"], [Str.ofString "rat"], [Str.ofString "a", Str.ofString "b"], [], []⟩
noncomputable def c_rmul : SCmd := (bCons (sRet (cCall ratF (cCons (c2 mulD (c2 idxD (cVar 0) (cK (.int 0))) (c2 idxD (cVar 1) (cK (.int 0)))) (cCons (c2 mulD (c2 idxD (cVar 0) (cK (.int 1))) (c2 idxD (cVar 1) (cK (.int 1)))) cNil))))
  bNil)
noncomputable def rmulF : Fn := mkFn 2 2 (c_rmul)
theorem w_rmul {prog : Program} {w : World} {h₀ : Heap} {mg mb : Str → Option Value} (W : Wd h₀ mg mb) (R : Fn_ h₀ mg (rc 10)) (h_rat : CallOk prog w h₀ mg 2 (Str.ofString "rat") ratF) : CallOk prog w h₀ mg 3 (Str.ofString "rmul") (rmulF) :=
  callOk_of (x := (Str.ofString "rmul")) (params := (rc 10).params) (body := (rc 10).body) (scope := (rc 10).scope) (ps := [(Str.ofString "a"), (Str.ofString "b")]) (sh := sh_rmul) (n := 2) W R (bind2 fun pm cd doc v0 v1 => rfl) (FnOk.of (by decide +kernel))
  (SndB.cons_ (SndS.ret (Snd.ucall W h_rat (by decide +kernel) (by decide +kernel) (fun _ => rfl) (SndL.cons_ (fun _ => rfl) (Snd.bin mul_ok (Snd.sub (fun _ _ => rfl) (Snd.var rfl (by decide +kernel) (by decide +kernel)) Snd.kInt) (Snd.sub (fun _ _ => rfl) (Snd.var rfl (by decide +kernel) (by decide +kernel)) Snd.kInt)) (SndL.cons_ (fun _ => rfl) (Snd.bin mul_ok (Snd.sub (fun _ _ => rfl) (Snd.var rfl (by decide +kernel) (by decide +kernel)) Snd.kInt) (Snd.sub (fun _ _ => rfl) (Snd.var rfl (by decide +kernel) (by decide +kernel)) Snd.kInt)) SndL.nil_))))
  SndB.nil_)
noncomputable def sh_rdiv : Sh := ⟨[Str.ofString "a", Str.ofString "b"], [Str.ofString "rat"], [Str.ofString "a", Str.ofString "b"], [], []⟩
noncomputable def c_rdiv : SCmd := (bCons (sRet (cCall ratF (cCons (c2 mulD (c2 idxD (cVar 0) (cK (.int 0))) (c2 idxD (cVar 1) (cK (.int 1)))) (cCons (c2 mulD (c2 idxD (cVar 0) (cK (.int 1))) (c2 idxD (cVar 1) (cK (.int 0)))) cNil))))
  bNil)
noncomputable def rdivF : Fn := mkFn 2 2 (c_rdiv)
theorem w_rdiv {prog : Program} {w : World} {h₀ : Heap} {mg mb : Str → Option Value} (W : Wd h₀ mg mb) (R : Fn_ h₀ mg (rc 11)) (h_rat : CallOk prog w h₀ mg 2 (Str.ofString "rat") ratF) : CallOk prog w h₀ mg 3 (Str.ofString "rdiv") (rdivF) :=
  callOk_of (x := (Str.ofString "rdiv")) (params := (rc 11).params) (body := (rc 11).body) (scope := (rc 11).scope) (ps := [(Str.ofString "a"), (Str.ofString "b")]) (sh := sh_rdiv) (n := 2) W R (bind2 fun pm cd doc v0 v1 => rfl) (FnOk.of (by decide +kernel))
  (SndB.cons_ (SndS.ret (Snd.ucall W h_rat (by decide +kernel) (by decide +kernel) (fun _ => rfl) (SndL.cons_ (fun _ => rfl) (Snd.bin mul_ok (Snd.sub (fun _ _ => rfl) (Snd.var rfl (by decide +kernel) (by decide +kernel)) Snd.kInt) (Snd.sub (fun _ _ => rfl) (Snd.var rfl (by decide +kernel) (by decide +kernel)) Snd.kInt)) (SndL.cons_ (fun _ => rfl) (Snd.bin mul_ok (Snd.sub (fun _ _ => rfl) (Snd.var rfl (by decide +kernel) (by decide +kernel)) Snd.kInt) (Snd.sub (fun _ _ => rfl) (Snd.var rfl (by decide +kernel) (by decide +kernel)) Snd.kInt)) SndL.nil_))))
  SndB.nil_)
noncomputable def sh_rneg : Sh := ⟨[Str.ofString "a"], [], [Str.ofString "a"], [], []⟩
noncomputable def c_rneg : SCmd := (bCons (sRet (cTup (cCons (c2 subD (cK (.int 0)) (c2 idxD (cVar 0) (cK (.int 0)))) (cCons (c2 idxD (cVar 0) (cK (.int 1))) cNil))))
  bNil)
noncomputable def rnegF : Fn := mkFn 1 1 (c_rneg)
theorem w_rneg {prog : Program} {w : World} {h₀ : Heap} {mg mb : Str → Option Value} (W : Wd h₀ mg mb) (R : Fn_ h₀ mg (rc 12)) : CallOk prog w h₀ mg 1 (Str.ofString "rneg") (rnegF) :=
  callOk_of (x := (Str.ofString "rneg")) (params := (rc 12).params) (body := (rc 12).body) (scope := (rc 12).scope) (ps := [(Str.ofString "a")]) (sh := sh_rneg) (n := 0) W R (bind1 fun pm cd doc v0 => rfl) (FnOk.of (by decide +kernel))
  (SndB.cons_ (SndS.ret (Snd.tup (SndL.cons_ (fun _ => rfl) (Snd.bin sub_ok Snd.kInt (Snd.sub (fun _ _ => rfl) (Snd.var rfl (by decide +kernel) (by decide +kernel)) Snd.kInt)) (SndL.cons_ (fun _ => rfl) (Snd.sub (fun _ _ => rfl) (Snd.var rfl (by decide +kernel) (by decide +kernel)) Snd.kInt) SndL.nil_))))
  SndB.nil_)
noncomputable def sh_shape : Sh := ⟨[Str.ofString "a"], [Str.ofString "len"], [Str.ofString "a"], [], []⟩
noncomputable def c_shape : SCmd := (bCons (sRet (cTup (cCons (c1 lenD (cVar 0)) (cCons (cIf (qVal (c2 gtD (c1 lenD (cVar 0)) (cK (.int 0)))) (c1 lenD (c2 idxD (cVar 0) (cK (.int 0)))) (cK (.int 0))) cNil))))
  bNil)
noncomputable def shapeF : Fn := mkFn 1 1 (c_shape)
theorem w_shape {prog : Program} {w : World} {h₀ : Heap} {mg mb : Str → Option Value} (W : Wd h₀ mg mb) (R : Fn_ h₀ mg (rc 14)) : CallOk prog w h₀ mg 1 (Str.ofString "shape") (shapeF) :=
  callOk_of (x := (Str.ofString "shape")) (params := (rc 14).params) (body := (rc 14).body) (scope := (rc 14).scope) (ps := [(Str.ofString "a")]) (sh := sh_shape) (n := 0) W R (bind1 fun pm cd doc v0 => rfl) (FnOk.of (by decide +kernel))
  (SndB.cons_ (SndS.ret (Snd.tup (SndL.cons_ (fun _ => rfl) (Snd.bltn W W.b_len (by decide +kernel) (by decide +kernel) len_ok (fun _ => rfl) (Snd.var rfl (by decide +kernel) (by decide +kernel))) (SndL.cons_ (fun _ => rfl) (Snd.ifexp (SndQ.cmp gt_ok rfl (Snd.bltn W W.b_len (by decide +kernel) (by decide +kernel) len_ok (fun _ => rfl) (Snd.var rfl (by decide +kernel) (by decide +kernel))) Snd.kInt) (Snd.bltn W W.b_len (by decide +kernel) (by decide +kernel) len_ok (fun _ => rfl) (Snd.sub (fun _ _ => rfl) (Snd.var rfl (by decide +kernel) (by decide +kernel)) Snd.kInt)) Snd.kInt) SndL.nil_))))
  SndB.nil_)
noncomputable def sh_need_shape : Sh := ⟨[Str.ofString "is_right", Str.ofString "text"], [Str.ofString "CasFail"], [Str.ofString "is_right", Str.ofString "text"], [], []⟩
noncomputable def c_need_shape : SCmd := (bCons (sIf (qNot (qVal (cVar 0))) (bCons sRaise
  bNil) bNil)
  bNil)
noncomputable def need_shapeF : Fn := mkFn 2 2 (c_need_shape)
theorem w_need_shape {prog : Program} {w : World} {h₀ : Heap} {mg mb : Str → Option Value} (W : Wd h₀ mg mb) (R : Fn_ h₀ mg (rc 15)) : CallOk prog w h₀ mg 1 (Str.ofString "need_shape") (need_shapeF) :=
  callOk_of (x := (Str.ofString "need_shape")) (params := (rc 15).params) (body := (rc 15).body) (scope := (rc 15).scope) (ps := [(Str.ofString "is_right"), (Str.ofString "text")]) (sh := sh_need_shape) (n := 0) W R (bind2 fun pm cd doc v0 v1 => rfl) (FnOk.of (by decide +kernel))
  (SndB.cons_ (SndS.if_ (SndQ.not_ (SndQ.val (fun _ _ => rfl) (Snd.var rfl (by decide +kernel) (by decide +kernel)))) (SndB.cons_ SndS.raise
  SndB.nil_) SndB.nil_)
  SndB.nil_)
noncomputable def sh_copied : Sh := ⟨[Str.ofString "a"], [], [Str.ofString "a"], [], []⟩
noncomputable def sh_copied_1 : Sh := ⟨[Str.ofString ".0", Str.ofString "row"], [Str.ofString "list"], [Str.ofString ".0", Str.ofString "row"], [], []⟩
noncomputable def c_copied : SCmd := (bCons (sRet (cCompR [none, none] (iLst (cVar 0)) (tVar 1) (fElt (c1 listV (cVar 1)))))
  bNil)
noncomputable def copiedF : Fn := mkFnK 1 1 (c_copied)
theorem w_copied {prog : Program} {w : World} {h₀ : Heap} {mg mb : Str → Option Value} (W : Wd h₀ mg mb) (R : Fn_ h₀ mg (rc 16)) : CallOk prog w h₀ mg 1 (Str.ofString "copied") (copiedF) :=
  callOk_ofK (x := (Str.ofString "copied")) (params := (rc 16).params) (body := (rc 16).body) (scope := (rc 16).scope) (ps := [(Str.ofString "a")]) (sh := sh_copied) (n := 0) W R (bind1 fun pm cd doc v0 => rfl) (FnOk.of (by decide +kernel))
  (SndB.cons_ (SndS.ret (Snd.lcR (CompOk.of (sh := sh_copied) (sh' := sh_copied_1) (mp := [none, none]) (by decide +kernel)) (fun _ _ => rfl) (by intro h; cases h) (SndI.lst (Snd.var rfl (by decide +kernel) (by decide +kernel))) (SndT.var rfl (.inl (by decide +kernel))) (Snd.typ W W.b_list (by decide +kernel) (by decide +kernel) listV_ok (fun _ => rfl) (Snd.var rfl (by decide +kernel) (by decide +kernel)))))
  SndB.nil_)
noncomputable def sh_from_whole : Sh := ⟨[Str.ofString "a"], [], [Str.ofString "a"], [], []⟩
noncomputable def sh_from_whole_1 : Sh := ⟨[Str.ofString ".0", Str.ofString "row"], [], [Str.ofString ".0", Str.ofString "row"], [], []⟩
noncomputable def sh_from_whole_2 : Sh := ⟨[Str.ofString ".0", Str.ofString "one"], [], [Str.ofString ".0", Str.ofString "one"], [], []⟩
noncomputable def c_from_whole : SCmd := (bCons (sRet (cComp [none, none] (iLst (cVar 0)) (tVar 1) (fElt (cComp [none, none] (iLst (cVar 1)) (tVar 1) (fElt (cTup (cCons (cVar 1) (cCons (cK (.int 1)) cNil))))))))
  bNil)
noncomputable def from_wholeF : Fn := mkFn 1 1 (c_from_whole)
theorem w_from_whole {prog : Program} {w : World} {h₀ : Heap} {mg mb : Str → Option Value} (W : Wd h₀ mg mb) (R : Fn_ h₀ mg (rc 17)) : CallOk prog w h₀ mg 1 (Str.ofString "from_whole") (from_wholeF) :=
  callOk_of (x := (Str.ofString "from_whole")) (params := (rc 17).params) (body := (rc 17).body) (scope := (rc 17).scope) (ps := [(Str.ofString "a")]) (sh := sh_from_whole) (n := 0) W R (bind1 fun pm cd doc v0 => rfl) (FnOk.of (by decide +kernel))
  (SndB.cons_ (SndS.ret (Snd.lc (CompOk.of (sh := sh_from_whole) (sh' := sh_from_whole_1) (mp := [none, none]) (by decide +kernel)) (fun _ _ => rfl) (by intro h; cases h) (SndI.lst (Snd.var rfl (by decide +kernel) (by decide +kernel))) (SndT.var rfl (.inl (by decide +kernel))) (Snd.lc (CompOk.of (sh := sh_from_whole_1) (sh' := sh_from_whole_2) (mp := [none, none]) (by decide +kernel)) (fun _ _ => rfl) (by intro h; cases h) (SndI.lst (Snd.var rfl (by decide +kernel) (by decide +kernel))) (SndT.var rfl (.inl (by decide +kernel))) (Snd.tup (SndL.cons_ (fun _ => rfl) (Snd.var rfl (by decide +kernel) (by decide +kernel)) (SndL.cons_ (fun _ => rfl) Snd.kInt SndL.nil_))))))
  SndB.nil_)
noncomputable def sh_unit_matrix : Sh := ⟨[Str.ofString "n"], [Str.ofString "range"], [], [Str.ofString "n"], [Str.ofString "n"]⟩
noncomputable def sh_unit_matrix_1 : Sh := ⟨[Str.ofString ".0", Str.ofString "row", Str.ofString "n"], [Str.ofString "range"], [Str.ofString ".0"], [Str.ofString "row"], [Str.ofString "row", Str.ofString "n"]⟩
noncomputable def sh_unit_matrix_2 : Sh := ⟨[Str.ofString ".0", Str.ofString "column", Str.ofString "row"], [Str.ofString "R1", Str.ofString "R0"], [Str.ofString ".0", Str.ofString "column"], [], [Str.ofString "row"]⟩
noncomputable def c_unit_matrix : SCmd := (bCons (sRet (cComp [none, none, some 0] (iRng1 (cVar 0)) (tVar 1) (fElt (cComp [none, none, some 1] (iRng1 (cVar 2)) (tVar 1) (fElt (cIf (qVal (c2 eqD (cVar 2) (cVar 1))) (cK (.tup [.int 1, .int 1])) (cK (.tup [.int 0, .int 1]))))))))
  bNil)
noncomputable def unit_matrixF : Fn := mkFn 1 1 (c_unit_matrix)
theorem w_unit_matrix {prog : Program} {w : World} {h₀ : Heap} {mg mb : Str → Option Value} (W : Wd h₀ mg mb) (R : Fn_ h₀ mg (rc 18)) : CallOk prog w h₀ mg 1 (Str.ofString "unit_matrix") (unit_matrixF) :=
  callOk_of (x := (Str.ofString "unit_matrix")) (params := (rc 18).params) (body := (rc 18).body) (scope := (rc 18).scope) (ps := [(Str.ofString "n")]) (sh := sh_unit_matrix) (n := 0) W R (bind1 fun pm cd doc v0 => rfl) (FnOk.of (by decide +kernel))
  (SndB.cons_ (SndS.ret (Snd.lc (CompOk.of (sh := sh_unit_matrix) (sh' := sh_unit_matrix_1) (mp := [none, none, some 0]) (by decide +kernel)) (fun _ _ => rfl) (by intro h; cases h) (SndI.rng1 W (by decide +kernel) (fun _ => rfl) (Snd.var rfl (by decide +kernel) (by decide +kernel))) (SndT.var rfl (.inr (by decide +kernel))) (Snd.lc (CompOk.of (sh := sh_unit_matrix_1) (sh' := sh_unit_matrix_2) (mp := [none, none, some 1]) (by decide +kernel)) (fun _ _ => rfl) (by intro h; cases h) (SndI.rng1 W (by decide +kernel) (fun _ => rfl) (Snd.var rfl (by decide +kernel) (by decide +kernel))) (SndT.var rfl (.inl (by decide +kernel))) (Snd.ifexp (SndQ.cmp eq_ok rfl (Snd.var rfl (by decide +kernel) (by decide +kernel)) (Snd.var rfl (by decide +kernel) (by decide +kernel))) (Snd.r1 W (by decide +kernel)) (Snd.r0 W (by decide +kernel))))))
  SndB.nil_)
noncomputable def sh_transposed : Sh := ⟨[Str.ofString "a"], [Str.ofString "range", Str.ofString "shape"], [], [Str.ofString "a"], [Str.ofString "a"]⟩
noncomputable def sh_transposed_1 : Sh := ⟨[Str.ofString ".0", Str.ofString "column", Str.ofString "a"], [], [Str.ofString ".0"], [Str.ofString "column"], [Str.ofString "column", Str.ofString "a"]⟩
noncomputable def sh_transposed_2 : Sh := ⟨[Str.ofString ".0", Str.ofString "row", Str.ofString "column"], [], [Str.ofString ".0", Str.ofString "row"], [], [Str.ofString "column"]⟩
noncomputable def c_transposed : SCmd := (bCons (sRet (cComp [none, none, some 0] (iRng1 (c2 idxD (cCall shapeF (cCons (cVar 0) cNil)) (cK (.int 1)))) (tVar 1) (fElt (cComp [none, none, some 1] (iLst (cVar 2)) (tVar 1) (fElt (c2 idxD (cVar 1) (cVar 2)))))))
  bNil)
noncomputable def transposedF : Fn := mkFn 1 1 (c_transposed)
theorem w_transposed {prog : Program} {w : World} {h₀ : Heap} {mg mb : Str → Option Value} (W : Wd h₀ mg mb) (R : Fn_ h₀ mg (rc 19)) (h_shape : CallOk prog w h₀ mg 1 (Str.ofString "shape") shapeF) : CallOk prog w h₀ mg 2 (Str.ofString "transposed") (transposedF) :=
  callOk_of (x := (Str.ofString "transposed")) (params := (rc 19).params) (body := (rc 19).body) (scope := (rc 19).scope) (ps := [(Str.ofString "a")]) (sh := sh_transposed) (n := 1) W R (bind1 fun pm cd doc v0 => rfl) (FnOk.of (by decide +kernel))
  (SndB.cons_ (SndS.ret (Snd.lc (CompOk.of (sh := sh_transposed) (sh' := sh_transposed_1) (mp := [none, none, some 0]) (by decide +kernel)) (fun _ _ => rfl) (by intro h; cases h) (SndI.rng1 W (by decide +kernel) (fun _ => rfl) (Snd.sub (fun _ _ => rfl) (Snd.ucall W h_shape (by decide +kernel) (by decide +kernel) (fun _ => rfl) (SndL.cons_ (fun _ => rfl) (Snd.var rfl (by decide +kernel) (by decide +kernel)) SndL.nil_)) Snd.kInt)) (SndT.var rfl (.inr (by decide +kernel))) (Snd.lc (CompOk.of (sh := sh_transposed_1) (sh' := sh_transposed_2) (mp := [none, none, some 1]) (by decide +kernel)) (fun _ _ => rfl) (by intro h; cases h) (SndI.lst (Snd.var rfl (by decide +kernel) (by decide +kernel))) (SndT.var rfl (.inl (by decide +kernel))) (Snd.sub (fun _ _ => rfl) (Snd.var rfl (by decide +kernel) (by decide +kernel)) (Snd.var rfl (by decide +kernel) (by decide +kernel))))))
  SndB.nil_)
noncomputable def sh_dot : Sh := ⟨[Str.ofString "one", Str.ofString "other", Str.ofString "found", Str.ofString "at", Str.ofString "left"], [Str.ofString "R0", Str.ofString "enumerate", Str.ofString "radd", Str.ofString "rmul"], [Str.ofString "one", Str.ofString "other", Str.ofString "found", Str.ofString "at", Str.ofString "left"], [], []⟩
noncomputable def c_dot : SCmd := (bCons (sAssign (cK (.tup [.int 0, .int 1])) (tVar 2))
  (bCons (sFor (iEnm (cVar 0)) (tTup [(tVar 3), (tVar 4)]) (bCons (sAssign (cCall raddF (cCons (cVar 2) (cCons (cCall rmulF (cCons (cVar 4) (cCons (c2 idxD (cVar 1) (cVar 3)) cNil))) cNil))) (tVar 2))
  bNil))
  (bCons (sRet (cVar 2))
  bNil)))
noncomputable def dotF : Fn := mkFn 2 5 (c_dot)
theorem w_dot {prog : Program} {w : World} {h₀ : Heap} {mg mb : Str → Option Value} (W : Wd h₀ mg mb) (R : Fn_ h₀ mg (rc 20)) (h_radd : CallOk prog w h₀ mg 3 (Str.ofString "radd") raddF) (h_rmul : CallOk prog w h₀ mg 3 (Str.ofString "rmul") rmulF) : CallOk prog w h₀ mg 4 (Str.ofString "dot") (dotF) :=
  callOk_of (x := (Str.ofString "dot")) (params := (rc 20).params) (body := (rc 20).body) (scope := (rc 20).scope) (ps := [(Str.ofString "one"), (Str.ofString "other")]) (sh := sh_dot) (n := 3) W R (bind2 fun pm cd doc v0 v1 => rfl) (FnOk.of (by decide +kernel))
  (SndB.cons_ (SndS.assign (fun _ => rfl) (fun _ _ _ _ => rfl) (fun _ => rfl) (Snd.r0 W (by decide +kernel)) (SndT.var rfl (.inl (by decide +kernel))))
  (SndB.cons_ (SndS.for_ (fun _ _ => rfl) (fun _ => ⟨_, _, _, rfl⟩) (SndI.enm W (by decide +kernel) (fun _ => rfl) (Snd.var rfl (by decide +kernel) (by decide +kernel))) (SndT.tup (fun _ => rfl) (fun _ => rfl) (SndTL.cons_ (fun _ => rfl) (SndT.var rfl (.inl (by decide +kernel))) (SndTL.cons_ (fun _ => rfl) (SndT.var rfl (.inl (by decide +kernel))) SndTL.nil_))) (SndB.cons_ (SndS.assign (fun _ => rfl) (fun _ _ _ _ => rfl) (fun _ => rfl) (Snd.ucall W h_radd (by decide +kernel) (by decide +kernel) (fun _ => rfl) (SndL.cons_ (fun _ => rfl) (Snd.var rfl (by decide +kernel) (by decide +kernel)) (SndL.cons_ (fun _ => rfl) (Snd.ucall W h_rmul (by decide +kernel) (by decide +kernel) (fun _ => rfl) (SndL.cons_ (fun _ => rfl) (Snd.var rfl (by decide +kernel) (by decide +kernel)) (SndL.cons_ (fun _ => rfl) (Snd.sub (fun _ _ => rfl) (Snd.var rfl (by decide +kernel) (by decide +kernel)) (Snd.var rfl (by decide +kernel) (by decide +kernel))) SndL.nil_))) SndL.nil_))) (SndT.var rfl (.inl (by decide +kernel))))
  SndB.nil_))
  (SndB.cons_ (SndS.ret (Snd.var rfl (by decide +kernel) (by decide +kernel)))
  SndB.nil_)))
noncomputable def sh_mat_add : Sh := ⟨[Str.ofString "a", Str.ofString "b"], [Str.ofString "need_shape", Str.ofString "shape", Str.ofString "enumerate"], [Str.ofString "a"], [Str.ofString "b"], [Str.ofString "b"]⟩
noncomputable def sh_mat_add_1 : Sh := ⟨[Str.ofString ".0", Str.ofString "row", Str.ofString "line", Str.ofString "b"], [Str.ofString "enumerate"], [Str.ofString ".0", Str.ofString "line"], [Str.ofString "row"], [Str.ofString "row", Str.ofString "b"]⟩
noncomputable def sh_mat_add_2 : Sh := ⟨[Str.ofString ".0", Str.ofString "column", Str.ofString "one", Str.ofString "b", Str.ofString "row"], [Str.ofString "radd"], [Str.ofString ".0", Str.ofString "column", Str.ofString "one"], [], [Str.ofString "b", Str.ofString "row"]⟩
noncomputable def c_mat_add : SCmd := (bCons (sExpr (cCall need_shapeF (cCons (c2 eqD (cCall shapeF (cCons (cVar 0) cNil)) (cCall shapeF (cCons (cVar 1) cNil))) (cCons (cK (.str (Str.ofString "a sum of unlike shapes"))) cNil))))
  (bCons (sRet (cComp [none, none, none, some 1] (iEnm (cVar 0)) (tTup [(tVar 1), (tVar 2)]) (fElt (cComp [none, none, none, some 3, some 1] (iEnm (cVar 2)) (tTup [(tVar 1), (tVar 2)]) (fElt (cCall raddF (cCons (cVar 2) (cCons (c2 idxD (c2 idxD (cVar 3) (cVar 4)) (cVar 1)) cNil))))))))
  bNil))
noncomputable def mat_addF : Fn := mkFn 2 2 (c_mat_add)
theorem w_mat_add {prog : Program} {w : World} {h₀ : Heap} {mg mb : Str → Option Value} (W : Wd h₀ mg mb) (R : Fn_ h₀ mg (rc 21)) (h_radd : CallOk prog w h₀ mg 3 (Str.ofString "radd") raddF) (h_shape : CallOk prog w h₀ mg 3 (Str.ofString "shape") shapeF) (h_need_shape : CallOk prog w h₀ mg 3 (Str.ofString "need_shape") need_shapeF) : CallOk prog w h₀ mg 4 (Str.ofString "mat_add") (mat_addF) :=
  callOk_of (x := (Str.ofString "mat_add")) (params := (rc 21).params) (body := (rc 21).body) (scope := (rc 21).scope) (ps := [(Str.ofString "a"), (Str.ofString "b")]) (sh := sh_mat_add) (n := 3) W R (bind2 fun pm cd doc v0 v1 => rfl) (FnOk.of (by decide +kernel))
  (SndB.cons_ (SndS.expr (fun _ => rfl) (Snd.ucall W h_need_shape (by decide +kernel) (by decide +kernel) (fun _ => rfl) (SndL.cons_ (fun _ => rfl) (Snd.cmp eq_ok rfl (Snd.ucall W h_shape (by decide +kernel) (by decide +kernel) (fun _ => rfl) (SndL.cons_ (fun _ => rfl) (Snd.var rfl (by decide +kernel) (by decide +kernel)) SndL.nil_)) (Snd.ucall W h_shape (by decide +kernel) (by decide +kernel) (fun _ => rfl) (SndL.cons_ (fun _ => rfl) (Snd.var rfl (by decide +kernel) (by decide +kernel)) SndL.nil_))) (SndL.cons_ (fun _ => rfl) Snd.kStr SndL.nil_))))
  (SndB.cons_ (SndS.ret (Snd.lc (CompOk.of (sh := sh_mat_add) (sh' := sh_mat_add_1) (mp := [none, none, none, some 1]) (by decide +kernel)) (fun _ _ => rfl) (fun _ => ⟨_, _, _, rfl⟩) (SndI.enm W (by decide +kernel) (fun _ => rfl) (Snd.var rfl (by decide +kernel) (by decide +kernel))) (SndT.tup (fun _ => rfl) (fun _ => rfl) (SndTL.cons_ (fun _ => rfl) (SndT.var rfl (.inr (by decide +kernel))) (SndTL.cons_ (fun _ => rfl) (SndT.var rfl (.inl (by decide +kernel))) SndTL.nil_))) (Snd.lc (CompOk.of (sh := sh_mat_add_1) (sh' := sh_mat_add_2) (mp := [none, none, none, some 3, some 1]) (by decide +kernel)) (fun _ _ => rfl) (fun _ => ⟨_, _, _, rfl⟩) (SndI.enm W (by decide +kernel) (fun _ => rfl) (Snd.var rfl (by decide +kernel) (by decide +kernel))) (SndT.tup (fun _ => rfl) (fun _ => rfl) (SndTL.cons_ (fun _ => rfl) (SndT.var rfl (.inl (by decide +kernel))) (SndTL.cons_ (fun _ => rfl) (SndT.var rfl (.inl (by decide +kernel))) SndTL.nil_))) (Snd.ucall W h_radd (by decide +kernel) (by decide +kernel) (fun _ => rfl) (SndL.cons_ (fun _ => rfl) (Snd.var rfl (by decide +kernel) (by decide +kernel)) (SndL.cons_ (fun _ => rfl) (Snd.sub (fun _ _ => rfl) (Snd.sub (fun _ _ => rfl) (Snd.var rfl (by decide +kernel) (by decide +kernel)) (Snd.var rfl (by decide +kernel) (by decide +kernel))) (Snd.var rfl (by decide +kernel) (by decide +kernel))) SndL.nil_))))))
  SndB.nil_))
noncomputable def sh_mat_scale : Sh := ⟨[Str.ofString "a", Str.ofString "number"], [], [Str.ofString "a"], [Str.ofString "number"], [Str.ofString "number"]⟩
noncomputable def sh_mat_scale_1 : Sh := ⟨[Str.ofString ".0", Str.ofString "row", Str.ofString "number"], [], [Str.ofString ".0", Str.ofString "row"], [], [Str.ofString "number"]⟩
noncomputable def sh_mat_scale_2 : Sh := ⟨[Str.ofString ".0", Str.ofString "one", Str.ofString "number"], [Str.ofString "rmul"], [Str.ofString ".0", Str.ofString "one"], [], [Str.ofString "number"]⟩
noncomputable def c_mat_scale : SCmd := (bCons (sRet (cComp [none, none, some 1] (iLst (cVar 0)) (tVar 1) (fElt (cComp [none, none, some 2] (iLst (cVar 1)) (tVar 1) (fElt (cCall rmulF (cCons (cVar 1) (cCons (cVar 2) cNil))))))))
  bNil)
noncomputable def mat_scaleF : Fn := mkFn 2 2 (c_mat_scale)
theorem w_mat_scale {prog : Program} {w : World} {h₀ : Heap} {mg mb : Str → Option Value} (W : Wd h₀ mg mb) (R : Fn_ h₀ mg (rc 22)) (h_rmul : CallOk prog w h₀ mg 3 (Str.ofString "rmul") rmulF) : CallOk prog w h₀ mg 4 (Str.ofString "mat_scale") (mat_scaleF) :=
  callOk_of (x := (Str.ofString "mat_scale")) (params := (rc 22).params) (body := (rc 22).body) (scope := (rc 22).scope) (ps := [(Str.ofString "a"), (Str.ofString "number")]) (sh := sh_mat_scale) (n := 3) W R (bind2 fun pm cd doc v0 v1 => rfl) (FnOk.of (by decide +kernel))
  (SndB.cons_ (SndS.ret (Snd.lc (CompOk.of (sh := sh_mat_scale) (sh' := sh_mat_scale_1) (mp := [none, none, some 1]) (by decide +kernel)) (fun _ _ => rfl) (by intro h; cases h) (SndI.lst (Snd.var rfl (by decide +kernel) (by decide +kernel))) (SndT.var rfl (.inl (by decide +kernel))) (Snd.lc (CompOk.of (sh := sh_mat_scale_1) (sh' := sh_mat_scale_2) (mp := [none, none, some 2]) (by decide +kernel)) (fun _ _ => rfl) (by intro h; cases h) (SndI.lst (Snd.var rfl (by decide +kernel) (by decide +kernel))) (SndT.var rfl (.inl (by decide +kernel))) (Snd.ucall W h_rmul (by decide +kernel) (by decide +kernel) (fun _ => rfl) (SndL.cons_ (fun _ => rfl) (Snd.var rfl (by decide +kernel) (by decide +kernel)) (SndL.cons_ (fun _ => rfl) (Snd.var rfl (by decide +kernel) (by decide +kernel)) SndL.nil_))))))
  SndB.nil_)
noncomputable def sh_mat_mul : Sh := ⟨[Str.ofString "a", Str.ofString "b", Str.ofString "columns"], [Str.ofString "need_shape", Str.ofString "shape", Str.ofString "len", Str.ofString "transposed"], [Str.ofString "a", Str.ofString "b"], [Str.ofString "columns"], [Str.ofString "columns"]⟩
noncomputable def sh_mat_mul_1 : Sh := ⟨[Str.ofString ".0", Str.ofString "row", Str.ofString "columns"], [], [Str.ofString ".0"], [Str.ofString "row"], [Str.ofString "row", Str.ofString "columns"]⟩
noncomputable def sh_mat_mul_2 : Sh := ⟨[Str.ofString ".0", Str.ofString "column", Str.ofString "row"], [Str.ofString "dot"], [Str.ofString ".0", Str.ofString "column"], [], [Str.ofString "row"]⟩
noncomputable def c_mat_mul : SCmd := (bCons (sExpr (cCall need_shapeF (cCons (c2 eqD (c2 idxD (cCall shapeF (cCons (cVar 0) cNil)) (cK (.int 1))) (c1 lenD (cVar 1))) (cCons (cK (.str (Str.ofString "a product of unlike shapes"))) cNil))))
  (bCons (sAssign (cCall transposedF (cCons (cVar 1) cNil)) (tVar 2))
  (bCons (sRet (cComp [none, none, some 2] (iLst (cVar 0)) (tVar 1) (fElt (cComp [none, none, some 1] (iLst (cVar 2)) (tVar 1) (fElt (cCall dotF (cCons (cVar 2) (cCons (cVar 1) cNil))))))))
  bNil)))
noncomputable def mat_mulF : Fn := mkFn 2 3 (c_mat_mul)
theorem w_mat_mul {prog : Program} {w : World} {h₀ : Heap} {mg mb : Str → Option Value} (W : Wd h₀ mg mb) (R : Fn_ h₀ mg (rc 23)) (h_shape : CallOk prog w h₀ mg 4 (Str.ofString "shape") shapeF) (h_need_shape : CallOk prog w h₀ mg 4 (Str.ofString "need_shape") need_shapeF) (h_transposed : CallOk prog w h₀ mg 4 (Str.ofString "transposed") transposedF) (h_dot : CallOk prog w h₀ mg 4 (Str.ofString "dot") dotF) : CallOk prog w h₀ mg 5 (Str.ofString "mat_mul") (mat_mulF) :=
  callOk_of (x := (Str.ofString "mat_mul")) (params := (rc 23).params) (body := (rc 23).body) (scope := (rc 23).scope) (ps := [(Str.ofString "a"), (Str.ofString "b")]) (sh := sh_mat_mul) (n := 4) W R (bind2 fun pm cd doc v0 v1 => rfl) (FnOk.of (by decide +kernel))
  (SndB.cons_ (SndS.expr (fun _ => rfl) (Snd.ucall W h_need_shape (by decide +kernel) (by decide +kernel) (fun _ => rfl) (SndL.cons_ (fun _ => rfl) (Snd.cmp eq_ok rfl (Snd.sub (fun _ _ => rfl) (Snd.ucall W h_shape (by decide +kernel) (by decide +kernel) (fun _ => rfl) (SndL.cons_ (fun _ => rfl) (Snd.var rfl (by decide +kernel) (by decide +kernel)) SndL.nil_)) Snd.kInt) (Snd.bltn W W.b_len (by decide +kernel) (by decide +kernel) len_ok (fun _ => rfl) (Snd.var rfl (by decide +kernel) (by decide +kernel)))) (SndL.cons_ (fun _ => rfl) Snd.kStr SndL.nil_))))
  (SndB.cons_ (SndS.assign (fun _ => rfl) (fun _ _ _ _ => rfl) (fun _ => rfl) (Snd.ucall W h_transposed (by decide +kernel) (by decide +kernel) (fun _ => rfl) (SndL.cons_ (fun _ => rfl) (Snd.var rfl (by decide +kernel) (by decide +kernel)) SndL.nil_)) (SndT.var rfl (.inr (by decide +kernel))))
  (SndB.cons_ (SndS.ret (Snd.lc (CompOk.of (sh := sh_mat_mul) (sh' := sh_mat_mul_1) (mp := [none, none, some 2]) (by decide +kernel)) (fun _ _ => rfl) (by intro h; cases h) (SndI.lst (Snd.var rfl (by decide +kernel) (by decide +kernel))) (SndT.var rfl (.inr (by decide +kernel))) (Snd.lc (CompOk.of (sh := sh_mat_mul_1) (sh' := sh_mat_mul_2) (mp := [none, none, some 1]) (by decide +kernel)) (fun _ _ => rfl) (by intro h; cases h) (SndI.lst (Snd.var rfl (by decide +kernel) (by decide +kernel))) (SndT.var rfl (.inl (by decide +kernel))) (Snd.ucall W h_dot (by decide +kernel) (by decide +kernel) (fun _ => rfl) (SndL.cons_ (fun _ => rfl) (Snd.var rfl (by decide +kernel) (by decide +kernel)) (SndL.cons_ (fun _ => rfl) (Snd.var rfl (by decide +kernel) (by decide +kernel)) SndL.nil_))))))
  SndB.nil_)))
noncomputable def sh_trace : Sh := ⟨[Str.ofString "a", Str.ofString "found", Str.ofString "at"], [Str.ofString "need_shape", Str.ofString "len", Str.ofString "shape", Str.ofString "R0", Str.ofString "range", Str.ofString "radd"], [Str.ofString "a", Str.ofString "found", Str.ofString "at"], [], []⟩
noncomputable def c_trace : SCmd := (bCons (sExpr (cCall need_shapeF (cCons (c2 eqD (c1 lenD (cVar 0)) (c2 idxD (cCall shapeF (cCons (cVar 0) cNil)) (cK (.int 1)))) (cCons (cK (.str (Str.ofString "a trace of no square"))) cNil))))
  (bCons (sAssign (cK (.tup [.int 0, .int 1])) (tVar 1))
  (bCons (sFor (iRng1 (c1 lenD (cVar 0))) (tVar 2) (bCons (sAssign (cCall raddF (cCons (cVar 1) (cCons (c2 idxD (c2 idxD (cVar 0) (cVar 2)) (cVar 2)) cNil))) (tVar 1))
  bNil))
  (bCons (sRet (cVar 1))
  bNil))))
noncomputable def traceF : Fn := mkFn 1 3 (c_trace)
theorem w_trace {prog : Program} {w : World} {h₀ : Heap} {mg mb : Str → Option Value} (W : Wd h₀ mg mb) (R : Fn_ h₀ mg (rc 24)) (h_radd : CallOk prog w h₀ mg 3 (Str.ofString "radd") raddF) (h_shape : CallOk prog w h₀ mg 3 (Str.ofString "shape") shapeF) (h_need_shape : CallOk prog w h₀ mg 3 (Str.ofString "need_shape") need_shapeF) : CallOk prog w h₀ mg 4 (Str.ofString "trace") (traceF) :=
  callOk_of (x := (Str.ofString "trace")) (params := (rc 24).params) (body := (rc 24).body) (scope := (rc 24).scope) (ps := [(Str.ofString "a")]) (sh := sh_trace) (n := 3) W R (bind1 fun pm cd doc v0 => rfl) (FnOk.of (by decide +kernel))
  (SndB.cons_ (SndS.expr (fun _ => rfl) (Snd.ucall W h_need_shape (by decide +kernel) (by decide +kernel) (fun _ => rfl) (SndL.cons_ (fun _ => rfl) (Snd.cmp eq_ok rfl (Snd.bltn W W.b_len (by decide +kernel) (by decide +kernel) len_ok (fun _ => rfl) (Snd.var rfl (by decide +kernel) (by decide +kernel))) (Snd.sub (fun _ _ => rfl) (Snd.ucall W h_shape (by decide +kernel) (by decide +kernel) (fun _ => rfl) (SndL.cons_ (fun _ => rfl) (Snd.var rfl (by decide +kernel) (by decide +kernel)) SndL.nil_)) Snd.kInt)) (SndL.cons_ (fun _ => rfl) Snd.kStr SndL.nil_))))
  (SndB.cons_ (SndS.assign (fun _ => rfl) (fun _ _ _ _ => rfl) (fun _ => rfl) (Snd.r0 W (by decide +kernel)) (SndT.var rfl (.inl (by decide +kernel))))
  (SndB.cons_ (SndS.for_ (fun _ _ => rfl) (by intro h; cases h) (SndI.rng1 W (by decide +kernel) (fun _ => rfl) (Snd.bltn W W.b_len (by decide +kernel) (by decide +kernel) len_ok (fun _ => rfl) (Snd.var rfl (by decide +kernel) (by decide +kernel)))) (SndT.var rfl (.inl (by decide +kernel))) (SndB.cons_ (SndS.assign (fun _ => rfl) (fun _ _ _ _ => rfl) (fun _ => rfl) (Snd.ucall W h_radd (by decide +kernel) (by decide +kernel) (fun _ => rfl) (SndL.cons_ (fun _ => rfl) (Snd.var rfl (by decide +kernel) (by decide +kernel)) (SndL.cons_ (fun _ => rfl) (Snd.sub (fun _ _ => rfl) (Snd.sub (fun _ _ => rfl) (Snd.var rfl (by decide +kernel) (by decide +kernel)) (Snd.var rfl (by decide +kernel) (by decide +kernel))) (Snd.var rfl (by decide +kernel) (by decide +kernel))) SndL.nil_))) (SndT.var rfl (.inl (by decide +kernel))))
  SndB.nil_))
  (SndB.cons_ (SndS.ret (Snd.var rfl (by decide +kernel) (by decide +kernel)))
  SndB.nil_))))
noncomputable def sh_swap_rows : Sh := ⟨[Str.ofString "a", Str.ofString "one", Str.ofString "other"], [], [Str.ofString "a", Str.ofString "one", Str.ofString "other"], [], []⟩
noncomputable def c_swap_rows : SCmd := (bCons (sAssign (cTup (cCons (c2 idxD (cVar 0) (cVar 2)) (cCons (c2 idxD (cVar 0) (cVar 1)) cNil))) (tTup [(tSub (cVar 0) (cVar 1)), (tSub (cVar 0) (cVar 2))]))
  bNil)
noncomputable def swap_rowsF : Fn := mkFn 3 3 (c_swap_rows)
theorem w_swap_rows {prog : Program} {w : World} {h₀ : Heap} {mg mb : Str → Option Value} (W : Wd h₀ mg mb) (R : Fn_ h₀ mg (rc 25)) : CallOk prog w h₀ mg 1 (Str.ofString "swap_rows") (swap_rowsF) :=
  callOk_of (x := (Str.ofString "swap_rows")) (params := (rc 25).params) (body := (rc 25).body) (scope := (rc 25).scope) (ps := [(Str.ofString "a"), (Str.ofString "one"), (Str.ofString "other")]) (sh := sh_swap_rows) (n := 0) W R (bind3 fun pm cd doc v0 v1 v2 => rfl) (FnOk.of (by decide +kernel))
  (SndB.cons_ (SndS.assign (fun _ => rfl) (by intro env hk hl hc; simp only [swappedStores, Env.blockKind, hk, List.filterMap_cons, List.filterMap_nil]; rfl) (fun _ => rfl) (Snd.tup (SndL.cons_ (fun _ => rfl) (Snd.sub (fun _ _ => rfl) (Snd.var rfl (by decide +kernel) (by decide +kernel)) (Snd.var rfl (by decide +kernel) (by decide +kernel))) (SndL.cons_ (fun _ => rfl) (Snd.sub (fun _ _ => rfl) (Snd.var rfl (by decide +kernel) (by decide +kernel)) (Snd.var rfl (by decide +kernel) (by decide +kernel))) SndL.nil_))) (SndT.tup (fun _ => rfl) (fun _ => rfl) (SndTL.cons_ (fun _ => rfl) (SndT.sub (Snd.var rfl (by decide +kernel) (by decide +kernel)) (Snd.var rfl (by decide +kernel) (by decide +kernel))) (SndTL.cons_ (fun _ => rfl) (SndT.sub (Snd.var rfl (by decide +kernel) (by decide +kernel)) (Snd.var rfl (by decide +kernel) (by decide +kernel))) SndTL.nil_))))
  SndB.nil_)
noncomputable def sh_take_off : Sh := ⟨[Str.ofString "a", Str.ofString "row", Str.ofString "source", Str.ofString "number"], [Str.ofString "enumerate"], [Str.ofString "row"], [Str.ofString "a", Str.ofString "source", Str.ofString "number"], [Str.ofString "a", Str.ofString "source", Str.ofString "number"]⟩
noncomputable def sh_take_off_1 : Sh := ⟨[Str.ofString ".0", Str.ofString "at", Str.ofString "one", Str.ofString "a", Str.ofString "number", Str.ofString "source"], [Str.ofString "rsub", Str.ofString "rmul"], [Str.ofString ".0", Str.ofString "at", Str.ofString "one"], [], [Str.ofString "a", Str.ofString "number", Str.ofString "source"]⟩
noncomputable def c_take_off : SCmd := (bCons (sAssign (cComp [none, none, none, some 0, some 3, some 2] (iEnm (c2 idxD (cVar 0) (cVar 1))) (tTup [(tVar 1), (tVar 2)]) (fElt (cCall rsubF (cCons (cVar 2) (cCons (cCall rmulF (cCons (cVar 4) (cCons (c2 idxD (c2 idxD (cVar 3) (cVar 5)) (cVar 1)) cNil))) cNil))))) (tSub (cVar 0) (cVar 1)))
  bNil)
noncomputable def take_offF : Fn := mkFn 4 4 (c_take_off)
theorem w_take_off {prog : Program} {w : World} {h₀ : Heap} {mg mb : Str → Option Value} (W : Wd h₀ mg mb) (R : Fn_ h₀ mg (rc 26)) (h_rsub : CallOk prog w h₀ mg 3 (Str.ofString "rsub") rsubF) (h_rmul : CallOk prog w h₀ mg 3 (Str.ofString "rmul") rmulF) : CallOk prog w h₀ mg 4 (Str.ofString "take_off") (take_offF) :=
  callOk_of (x := (Str.ofString "take_off")) (params := (rc 26).params) (body := (rc 26).body) (scope := (rc 26).scope) (ps := [(Str.ofString "a"), (Str.ofString "row"), (Str.ofString "source"), (Str.ofString "number")]) (sh := sh_take_off) (n := 3) W R (bind4 fun pm cd doc v0 v1 v2 v3 => rfl) (FnOk.of (by decide +kernel))
  (SndB.cons_ (SndS.assign (fun _ => rfl) (fun _ _ _ _ => rfl) (fun _ => rfl) (Snd.lc (CompOk.of (sh := sh_take_off) (sh' := sh_take_off_1) (mp := [none, none, none, some 0, some 3, some 2]) (by decide +kernel)) (fun _ _ => rfl) (fun _ => ⟨_, _, _, rfl⟩) (SndI.enm W (by decide +kernel) (fun _ => rfl) (Snd.sub (fun _ _ => rfl) (Snd.var rfl (by decide +kernel) (by decide +kernel)) (Snd.var rfl (by decide +kernel) (by decide +kernel)))) (SndT.tup (fun _ => rfl) (fun _ => rfl) (SndTL.cons_ (fun _ => rfl) (SndT.var rfl (.inl (by decide +kernel))) (SndTL.cons_ (fun _ => rfl) (SndT.var rfl (.inl (by decide +kernel))) SndTL.nil_))) (Snd.ucall W h_rsub (by decide +kernel) (by decide +kernel) (fun _ => rfl) (SndL.cons_ (fun _ => rfl) (Snd.var rfl (by decide +kernel) (by decide +kernel)) (SndL.cons_ (fun _ => rfl) (Snd.ucall W h_rmul (by decide +kernel) (by decide +kernel) (fun _ => rfl) (SndL.cons_ (fun _ => rfl) (Snd.var rfl (by decide +kernel) (by decide +kernel)) (SndL.cons_ (fun _ => rfl) (Snd.sub (fun _ _ => rfl) (Snd.sub (fun _ _ => rfl) (Snd.var rfl (by decide +kernel) (by decide +kernel)) (Snd.var rfl (by decide +kernel) (by decide +kernel))) (Snd.var rfl (by decide +kernel) (by decide +kernel))) SndL.nil_))) SndL.nil_)))) (SndT.sub (Snd.var rfl (by decide +kernel) (by decide +kernel)) (Snd.var rfl (by decide +kernel) (by decide +kernel))))
  SndB.nil_)
noncomputable def sh_echelon : Sh := ⟨[Str.ofString "a", Str.ofString "found", Str.ofString "pivots", Str.ofString "column", Str.ofString "row", Str.ofString "spots", Str.ofString "lead", Str.ofString "other"], [Str.ofString "copied", Str.ofString "range", Str.ofString "shape", Str.ofString "len", Str.ofString "swap_rows", Str.ofString "R0", Str.ofString "take_off"], [Str.ofString "a", Str.ofString "pivots", Str.ofString "row", Str.ofString "spots", Str.ofString "other"], [Str.ofString "found", Str.ofString "column", Str.ofString "lead"], [Str.ofString "found", Str.ofString "column", Str.ofString "lead"]⟩
noncomputable def sh_echelon_1 : Sh := ⟨[Str.ofString ".0", Str.ofString "at", Str.ofString "column", Str.ofString "found"], [Str.ofString "R0"], [Str.ofString ".0", Str.ofString "at"], [], [Str.ofString "column", Str.ofString "found"]⟩
noncomputable def sh_echelon_2 : Sh := ⟨[Str.ofString ".0", Str.ofString "one", Str.ofString "lead"], [Str.ofString "rdiv"], [Str.ofString ".0", Str.ofString "one"], [], [Str.ofString "lead"]⟩
noncomputable def c_echelon : SCmd := (bCons (sAssign (cTup (cCons (cCall copiedF (cCons (cVar 0) cNil)) (cCons (cRef cNil) cNil))) (tTup [(tVar 1), (tVar 2)]))
  (bCons (sFor (iRng1 (c2 idxD (cCall shapeF (cCons (cVar 0) cNil)) (cK (.int 1)))) (tVar 3) (bCons (sAssign (c1 lenD (cVar 2)) (tVar 4))
  (bCons (sAssign (cComp [none, none, some 3, some 1] (iRng2 (cVar 4) (c1 lenD (cVar 1))) (tVar 1) (fIf (qVal (c2 neD (c2 idxD (c2 idxD (cVar 3) (cVar 1)) (cVar 2)) (cK (.tup [.int 0, .int 1])))) (cVar 1))) (tVar 5))
  (bCons (sIf (qVal (c2 eqD (c1 lenD (cVar 5)) (cK (.int 0)))) (bCons sCont
  bNil) bNil)
  (bCons (sExpr (cCall swap_rowsF (cCons (cVar 1) (cCons (cVar 4) (cCons (c2 idxD (cVar 5) (cK (.int 0))) cNil)))))
  (bCons (sAssign (c2 idxD (c2 idxD (cVar 1) (cVar 4)) (cVar 3)) (tVar 6))
  (bCons (sAssign (cComp [none, none, some 6] (iLst (c2 idxD (cVar 1) (cVar 4))) (tVar 1) (fElt (cCall rdivF (cCons (cVar 1) (cCons (cVar 2) cNil))))) (tSub (cVar 1) (cVar 4)))
  (bCons (sFor (iRng1 (c1 lenD (cVar 1))) (tVar 7) (bCons (sIf (qAnd (qVal (c2 neD (cVar 7) (cVar 4))) (qVal (c2 neD (c2 idxD (c2 idxD (cVar 1) (cVar 7)) (cVar 3)) (cK (.tup [.int 0, .int 1]))))) (bCons (sExpr (cCall take_offF (cCons (cVar 1) (cCons (cVar 7) (cCons (cVar 4) (cCons (c2 idxD (c2 idxD (cVar 1) (cVar 7)) (cVar 3)) cNil))))))
  bNil) bNil)
  bNil))
  (bCons (sExpr (cApp (cVar 2) (cVar 3)))
  bNil)))))))))
  (bCons (sRet (cTup (cCons (cVar 1) (cCons (cVar 2) cNil))))
  bNil)))
noncomputable def echelonF : Fn := mkFn 1 8 (c_echelon)
theorem w_echelon {prog : Program} {w : World} {h₀ : Heap} {mg mb : Str → Option Value} (W : Wd h₀ mg mb) (R : Fn_ h₀ mg (rc 27)) (h_rdiv : CallOk prog w h₀ mg 4 (Str.ofString "rdiv") rdivF) (h_shape : CallOk prog w h₀ mg 4 (Str.ofString "shape") shapeF) (h_copied : CallOk prog w h₀ mg 4 (Str.ofString "copied") copiedF) (h_swap_rows : CallOk prog w h₀ mg 4 (Str.ofString "swap_rows") swap_rowsF) (h_take_off : CallOk prog w h₀ mg 4 (Str.ofString "take_off") take_offF) : CallOk prog w h₀ mg 5 (Str.ofString "echelon") (echelonF) :=
  callOk_of (x := (Str.ofString "echelon")) (params := (rc 27).params) (body := (rc 27).body) (scope := (rc 27).scope) (ps := [(Str.ofString "a")]) (sh := sh_echelon) (n := 4) W R (bind1 fun pm cd doc v0 => rfl) (FnOk.of (by decide +kernel))
  (SndB.cons_ (SndS.assign (fun _ => rfl) (by intro env hk hl hc; have h0 := hc (Str.ofString "found") (by decide +kernel); have h1 := hl (Str.ofString "pivots") (by decide +kernel); simp only [swappedStores, Env.blockKind, hk, h0, h1, List.filterMap_cons, List.filterMap_nil]; rfl) (fun _ => rfl) (Snd.tup (SndL.cons_ (fun _ => rfl) (Snd.ucall W h_copied (by decide +kernel) (by decide +kernel) (fun _ => rfl) (SndL.cons_ (fun _ => rfl) (Snd.var rfl (by decide +kernel) (by decide +kernel)) SndL.nil_)) (SndL.cons_ (fun _ => rfl) (Snd.ref SndL.nil_) SndL.nil_))) (SndT.tup (fun _ => rfl) (fun _ => rfl) (SndTL.cons_ (fun _ => rfl) (SndT.var rfl (.inr (by decide +kernel))) (SndTL.cons_ (fun _ => rfl) (SndT.var rfl (.inl (by decide +kernel))) SndTL.nil_))))
  (SndB.cons_ (SndS.for_ (fun _ _ => rfl) (by intro h; cases h) (SndI.rng1 W (by decide +kernel) (fun _ => rfl) (Snd.sub (fun _ _ => rfl) (Snd.ucall W h_shape (by decide +kernel) (by decide +kernel) (fun _ => rfl) (SndL.cons_ (fun _ => rfl) (Snd.var rfl (by decide +kernel) (by decide +kernel)) SndL.nil_)) Snd.kInt)) (SndT.var rfl (.inr (by decide +kernel))) (SndB.cons_ (SndS.assign (fun _ => rfl) (fun _ _ _ _ => rfl) (fun _ => rfl) (Snd.bltn W W.b_len (by decide +kernel) (by decide +kernel) len_ok (fun _ => rfl) (Snd.var rfl (by decide +kernel) (by decide +kernel))) (SndT.var rfl (.inl (by decide +kernel))))
  (SndB.cons_ (SndS.lcIf (CompOk.of (sh := sh_echelon) (sh' := sh_echelon_1) (mp := [none, none, some 3, some 1]) (by decide +kernel)) (fun _ _ => rfl) (by intro h; cases h) (SndI.rng2 W (by decide +kernel) (fun _ => rfl) (Snd.var rfl (by decide +kernel) (by decide +kernel)) (Snd.bltn W W.b_len (by decide +kernel) (by decide +kernel) len_ok (fun _ => rfl) (Snd.var rfl (by decide +kernel) (by decide +kernel)))) (SndT.var rfl (.inl (by decide +kernel))) (SndQ.cmp ne_ok rfl (Snd.sub (fun _ _ => rfl) (Snd.sub (fun _ _ => rfl) (Snd.var rfl (by decide +kernel) (by decide +kernel)) (Snd.var rfl (by decide +kernel) (by decide +kernel))) (Snd.var rfl (by decide +kernel) (by decide +kernel))) (Snd.r0 W (by decide +kernel))) (Snd.var rfl (by decide +kernel) (by decide +kernel)) rfl (.inl (by decide +kernel)))
  (SndB.cons_ (SndS.if_ (SndQ.cmp eq_ok rfl (Snd.bltn W W.b_len (by decide +kernel) (by decide +kernel) len_ok (fun _ => rfl) (Snd.var rfl (by decide +kernel) (by decide +kernel))) Snd.kInt) (SndB.cons_ SndS.cont
  SndB.nil_) SndB.nil_)
  (SndB.cons_ (SndS.expr (fun _ => rfl) (Snd.ucall W h_swap_rows (by decide +kernel) (by decide +kernel) (fun _ => rfl) (SndL.cons_ (fun _ => rfl) (Snd.var rfl (by decide +kernel) (by decide +kernel)) (SndL.cons_ (fun _ => rfl) (Snd.var rfl (by decide +kernel) (by decide +kernel)) (SndL.cons_ (fun _ => rfl) (Snd.sub (fun _ _ => rfl) (Snd.var rfl (by decide +kernel) (by decide +kernel)) Snd.kInt) SndL.nil_)))))
  (SndB.cons_ (SndS.assign (fun _ => rfl) (fun _ _ _ _ => rfl) (fun _ => rfl) (Snd.sub (fun _ _ => rfl) (Snd.sub (fun _ _ => rfl) (Snd.var rfl (by decide +kernel) (by decide +kernel)) (Snd.var rfl (by decide +kernel) (by decide +kernel))) (Snd.var rfl (by decide +kernel) (by decide +kernel))) (SndT.var rfl (.inr (by decide +kernel))))
  (SndB.cons_ (SndS.assign (fun _ => rfl) (fun _ _ _ _ => rfl) (fun _ => rfl) (Snd.lc (CompOk.of (sh := sh_echelon) (sh' := sh_echelon_2) (mp := [none, none, some 6]) (by decide +kernel)) (fun _ _ => rfl) (by intro h; cases h) (SndI.lst (Snd.sub (fun _ _ => rfl) (Snd.var rfl (by decide +kernel) (by decide +kernel)) (Snd.var rfl (by decide +kernel) (by decide +kernel)))) (SndT.var rfl (.inl (by decide +kernel))) (Snd.ucall W h_rdiv (by decide +kernel) (by decide +kernel) (fun _ => rfl) (SndL.cons_ (fun _ => rfl) (Snd.var rfl (by decide +kernel) (by decide +kernel)) (SndL.cons_ (fun _ => rfl) (Snd.var rfl (by decide +kernel) (by decide +kernel)) SndL.nil_)))) (SndT.sub (Snd.var rfl (by decide +kernel) (by decide +kernel)) (Snd.var rfl (by decide +kernel) (by decide +kernel))))
  (SndB.cons_ (SndS.for_ (fun _ _ => rfl) (by intro h; cases h) (SndI.rng1 W (by decide +kernel) (fun _ => rfl) (Snd.bltn W W.b_len (by decide +kernel) (by decide +kernel) len_ok (fun _ => rfl) (Snd.var rfl (by decide +kernel) (by decide +kernel)))) (SndT.var rfl (.inl (by decide +kernel))) (SndB.cons_ (SndS.if_ (SndQ.and_ (SndQ.cmp ne_ok rfl (Snd.var rfl (by decide +kernel) (by decide +kernel)) (Snd.var rfl (by decide +kernel) (by decide +kernel))) (SndQ.cmp ne_ok rfl (Snd.sub (fun _ _ => rfl) (Snd.sub (fun _ _ => rfl) (Snd.var rfl (by decide +kernel) (by decide +kernel)) (Snd.var rfl (by decide +kernel) (by decide +kernel))) (Snd.var rfl (by decide +kernel) (by decide +kernel))) (Snd.r0 W (by decide +kernel)))) (SndB.cons_ (SndS.expr (fun _ => rfl) (Snd.ucall W h_take_off (by decide +kernel) (by decide +kernel) (fun _ => rfl) (SndL.cons_ (fun _ => rfl) (Snd.var rfl (by decide +kernel) (by decide +kernel)) (SndL.cons_ (fun _ => rfl) (Snd.var rfl (by decide +kernel) (by decide +kernel)) (SndL.cons_ (fun _ => rfl) (Snd.var rfl (by decide +kernel) (by decide +kernel)) (SndL.cons_ (fun _ => rfl) (Snd.sub (fun _ _ => rfl) (Snd.sub (fun _ _ => rfl) (Snd.var rfl (by decide +kernel) (by decide +kernel)) (Snd.var rfl (by decide +kernel) (by decide +kernel))) (Snd.var rfl (by decide +kernel) (by decide +kernel))) SndL.nil_))))))
  SndB.nil_) SndB.nil_)
  SndB.nil_))
  (SndB.cons_ (SndS.expr (fun _ => rfl) (Snd.append_ (fun _ => rfl) rfl (fun _ => rfl) (Snd.var rfl (by decide +kernel) (by decide +kernel)) (Snd.var rfl (by decide +kernel) (by decide +kernel))))
  SndB.nil_)))))))))
  (SndB.cons_ (SndS.ret (Snd.tup (SndL.cons_ (fun _ => rfl) (Snd.var rfl (by decide +kernel) (by decide +kernel)) (SndL.cons_ (fun _ => rfl) (Snd.var rfl (by decide +kernel) (by decide +kernel)) SndL.nil_))))
  SndB.nil_)))
noncomputable def sh_inverse : Sh := ⟨[Str.ofString "a", Str.ofString "n", Str.ofString "wide", Str.ofString "found", Str.ofString "pivots"], [Str.ofString "len", Str.ofString "need_shape", Str.ofString "shape", Str.ofString "enumerate", Str.ofString "echelon", Str.ofString "list", Str.ofString "range"], [Str.ofString "a", Str.ofString "wide", Str.ofString "found", Str.ofString "pivots"], [Str.ofString "n"], [Str.ofString "n"]⟩
noncomputable def sh_inverse_1 : Sh := ⟨[Str.ofString ".0", Str.ofString "at", Str.ofString "row", Str.ofString "n"], [Str.ofString "list", Str.ofString "unit_matrix"], [Str.ofString ".0", Str.ofString "at", Str.ofString "row"], [], [Str.ofString "n"]⟩
noncomputable def sh_inverse_2 : Sh := ⟨[Str.ofString ".0", Str.ofString "row", Str.ofString "n"], [], [Str.ofString ".0", Str.ofString "row"], [], [Str.ofString "n"]⟩
noncomputable def c_inverse : SCmd := (bCons (sAssign (c1 lenD (cVar 0)) (tVar 1))
  (bCons (sExpr (cCall need_shapeF (cCons (cOr (c2 eqD (cVar 1) (c2 idxD (cCall shapeF (cCons (cVar 0) cNil)) (cK (.int 1)))) (c2 eqD (cVar 1) (cK (.int 0)))) (cCons (cK (.str (Str.ofString "an inverse of no square"))) cNil))))
  (bCons (sAssign (cComp [none, none, none, some 1] (iEnm (cVar 0)) (tTup [(tVar 1), (tVar 2)]) (fElt (c2 addD (c1 listV (cVar 2)) (c2 idxD (cCall unit_matrixF (cCons (cVar 3) cNil)) (cVar 1))))) (tVar 2))
  (bCons (sAssign (cCall echelonF (cCons (cVar 2) cNil)) (tTup [(tVar 3), (tVar 4)]))
  (bCons (sIf (qVal (c2 neD (c2 uptoD (cVar 4) (cVar 1)) (c1 lrD (cVar 1)))) (bCons (sRet (cK .none))
  bNil) bNil)
  (bCons (sRet (cComp [none, none, some 1] (iLst (cVar 3)) (tVar 1) (fElt (c2 fromD (cVar 1) (cVar 2)))))
  bNil))))))
noncomputable def inverseF : Fn := mkFn 1 5 (c_inverse)
theorem w_inverse {prog : Program} {w : World} {h₀ : Heap} {mg mb : Str → Option Value} (W : Wd h₀ mg mb) (R : Fn_ h₀ mg (rc 28)) (h_shape : CallOk prog w h₀ mg 5 (Str.ofString "shape") shapeF) (h_need_shape : CallOk prog w h₀ mg 5 (Str.ofString "need_shape") need_shapeF) (h_unit_matrix : CallOk prog w h₀ mg 5 (Str.ofString "unit_matrix") unit_matrixF) (h_echelon : CallOk prog w h₀ mg 5 (Str.ofString "echelon") echelonF) : CallOk prog w h₀ mg 6 (Str.ofString "inverse") (inverseF) :=
  callOk_of (x := (Str.ofString "inverse")) (params := (rc 28).params) (body := (rc 28).body) (scope := (rc 28).scope) (ps := [(Str.ofString "a")]) (sh := sh_inverse) (n := 5) W R (bind1 fun pm cd doc v0 => rfl) (FnOk.of (by decide +kernel))
  (SndB.cons_ (SndS.assign (fun _ => rfl) (fun _ _ _ _ => rfl) (fun _ => rfl) (Snd.bltn W W.b_len (by decide +kernel) (by decide +kernel) len_ok (fun _ => rfl) (Snd.var rfl (by decide +kernel) (by decide +kernel))) (SndT.var rfl (.inr (by decide +kernel))))
  (SndB.cons_ (SndS.expr (fun _ => rfl) (Snd.ucall W h_need_shape (by decide +kernel) (by decide +kernel) (fun _ => rfl) (SndL.cons_ (fun _ => rfl) (Snd.or_ (Snd.cmp eq_ok rfl (Snd.var rfl (by decide +kernel) (by decide +kernel)) (Snd.sub (fun _ _ => rfl) (Snd.ucall W h_shape (by decide +kernel) (by decide +kernel) (fun _ => rfl) (SndL.cons_ (fun _ => rfl) (Snd.var rfl (by decide +kernel) (by decide +kernel)) SndL.nil_)) Snd.kInt)) (Snd.cmp eq_ok rfl (Snd.var rfl (by decide +kernel) (by decide +kernel)) Snd.kInt)) (SndL.cons_ (fun _ => rfl) Snd.kStr SndL.nil_))))
  (SndB.cons_ (SndS.lc (CompOk.of (sh := sh_inverse) (sh' := sh_inverse_1) (mp := [none, none, none, some 1]) (by decide +kernel)) (fun _ _ => rfl) (fun _ => ⟨_, _, _, rfl⟩) (SndI.enm W (by decide +kernel) (fun _ => rfl) (Snd.var rfl (by decide +kernel) (by decide +kernel))) (SndT.tup (fun _ => rfl) (fun _ => rfl) (SndTL.cons_ (fun _ => rfl) (SndT.var rfl (.inl (by decide +kernel))) (SndTL.cons_ (fun _ => rfl) (SndT.var rfl (.inl (by decide +kernel))) SndTL.nil_))) (Snd.bin add_ok (Snd.typ W W.b_list (by decide +kernel) (by decide +kernel) listV_ok (fun _ => rfl) (Snd.var rfl (by decide +kernel) (by decide +kernel))) (Snd.sub (fun _ _ => rfl) (Snd.ucall W h_unit_matrix (by decide +kernel) (by decide +kernel) (fun _ => rfl) (SndL.cons_ (fun _ => rfl) (Snd.var rfl (by decide +kernel) (by decide +kernel)) SndL.nil_)) (Snd.var rfl (by decide +kernel) (by decide +kernel)))) rfl (.inl (by decide +kernel)))
  (SndB.cons_ (SndS.assign (fun _ => rfl) (fun _ _ _ _ => rfl) (fun _ => rfl) (Snd.ucall W h_echelon (by decide +kernel) (by decide +kernel) (fun _ => rfl) (SndL.cons_ (fun _ => rfl) (Snd.var rfl (by decide +kernel) (by decide +kernel)) SndL.nil_)) (SndT.tup (fun _ => rfl) (fun _ => rfl) (SndTL.cons_ (fun _ => rfl) (SndT.var rfl (.inl (by decide +kernel))) (SndTL.cons_ (fun _ => rfl) (SndT.var rfl (.inl (by decide +kernel))) SndTL.nil_))))
  (SndB.cons_ (SndS.if_ (SndQ.cmp ne_ok rfl (Snd.upto (Snd.var rfl (by decide +kernel) (by decide +kernel)) (Snd.var rfl (by decide +kernel) (by decide +kernel))) (Snd.lrange W (by decide +kernel) (by decide +kernel) (fun _ => rfl) (Snd.var rfl (by decide +kernel) (by decide +kernel)))) (SndB.cons_ (SndS.ret Snd.kNone)
  SndB.nil_) SndB.nil_)
  (SndB.cons_ (SndS.ret (Snd.lc (CompOk.of (sh := sh_inverse) (sh' := sh_inverse_2) (mp := [none, none, some 1]) (by decide +kernel)) (fun _ _ => rfl) (by intro h; cases h) (SndI.lst (Snd.var rfl (by decide +kernel) (by decide +kernel))) (SndT.var rfl (.inl (by decide +kernel))) (Snd.from_ (fun _ _ => rfl) (Snd.var rfl (by decide +kernel) (by decide +kernel)) (Snd.var rfl (by decide +kernel) (by decide +kernel)))))
  SndB.nil_))))))
end Mine
-- G3
namespace Mine
open PySem PySem.W PyProof.Rows
noncomputable def sh_charpoly : Sh := ⟨[Str.ofString "a", Str.ofString "n", Str.ofString "found", Str.ofString "power", Str.ofString "step", Str.ofString "number"], [Str.ofString "len", Str.ofString "need_shape", Str.ofString "shape", Str.ofString "R1", Str.ofString "unit_matrix", Str.ofString "range", Str.ofString "mat_mul", Str.ofString "rneg", Str.ofString "rdiv", Str.ofString "trace", Str.ofString "mat_add", Str.ofString "mat_scale"], [Str.ofString "a", Str.ofString "n", Str.ofString "found", Str.ofString "power", Str.ofString "step", Str.ofString "number"], [], []⟩
noncomputable def c_charpoly : SCmd := (bCons (sAssign (c1 lenD (cVar 0)) (tVar 1))
  (bCons (sExpr (cCall need_shapeF (cCons (c2 eqD (cVar 1) (c2 idxD (cCall shapeF (cCons (cVar 0) cNil)) (cK (.int 1)))) (cCons (cK (.str (Str.ofString "a polynomial of no square"))) cNil))))
  (bCons (sAssign (cTup (cCons (cRef (cCons (cK (.tup [.int 1, .int 1])) cNil)) (cCons (cCall unit_matrixF (cCons (cVar 1) cNil)) cNil))) (tTup [(tVar 2), (tVar 3)]))
  (bCons (sFor (iRng2 (cK (.int 1)) (c2 addD (cVar 1) (cK (.int 1)))) (tVar 4) (bCons (sAssign (cCall mat_mulF (cCons (cVar 0) (cCons (cVar 3) cNil))) (tVar 3))
  (bCons (sAssign (cCall rnegF (cCons (cCall rdivF (cCons (cCall traceF (cCons (cVar 3) cNil)) (cCons (cTup (cCons (cVar 4) (cCons (cK (.int 1)) cNil))) cNil))) cNil)) (tVar 5))
  (bCons (sExpr (cApp (cVar 2) (cVar 5)))
  (bCons (sAssign (cCall mat_addF (cCons (cVar 3) (cCons (cCall mat_scaleF (cCons (cCall unit_matrixF (cCons (cVar 1) cNil)) (cCons (cVar 5) cNil))) cNil))) (tVar 3))
  bNil)))))
  (bCons (sExpr (cRev (cVar 2)))
  (bCons (sRet (cVar 2))
  bNil))))))
noncomputable def charpolyF : Fn := mkFn 1 6 (c_charpoly)
theorem w_charpoly {prog : Program} {w : World} {h₀ : Heap} {mg mb : Str → Option Value} (W : Wd h₀ mg mb) (R : Fn_ h₀ mg (rc 30)) (h_rdiv : CallOk prog w h₀ mg 5 (Str.ofString "rdiv") rdivF) (h_rneg : CallOk prog w h₀ mg 5 (Str.ofString "rneg") rnegF) (h_shape : CallOk prog w h₀ mg 5 (Str.ofString "shape") shapeF) (h_need_shape : CallOk prog w h₀ mg 5 (Str.ofString "need_shape") need_shapeF) (h_unit_matrix : CallOk prog w h₀ mg 5 (Str.ofString "unit_matrix") unit_matrixF) (h_mat_add : CallOk prog w h₀ mg 5 (Str.ofString "mat_add") mat_addF) (h_mat_scale : CallOk prog w h₀ mg 5 (Str.ofString "mat_scale") mat_scaleF) (h_mat_mul : CallOk prog w h₀ mg 5 (Str.ofString "mat_mul") mat_mulF) (h_trace : CallOk prog w h₀ mg 5 (Str.ofString "trace") traceF) : CallOk prog w h₀ mg 6 (Str.ofString "charpoly") (charpolyF) :=
  callOk_of (x := (Str.ofString "charpoly")) (params := (rc 30).params) (body := (rc 30).body) (scope := (rc 30).scope) (ps := [(Str.ofString "a")]) (sh := sh_charpoly) (n := 5) W R (bind1 fun pm cd doc v0 => rfl) (FnOk.of (by decide +kernel))
  (SndB.cons_ (SndS.assign (fun _ => rfl) (fun _ _ _ _ => rfl) (fun _ => rfl) (Snd.bltn W W.b_len (by decide +kernel) (by decide +kernel) len_ok (fun _ => rfl) (Snd.var rfl (by decide +kernel) (by decide +kernel))) (SndT.var rfl (.inl (by decide +kernel))))
  (SndB.cons_ (SndS.expr (fun _ => rfl) (Snd.ucall W h_need_shape (by decide +kernel) (by decide +kernel) (fun _ => rfl) (SndL.cons_ (fun _ => rfl) (Snd.cmp eq_ok rfl (Snd.var rfl (by decide +kernel) (by decide +kernel)) (Snd.sub (fun _ _ => rfl) (Snd.ucall W h_shape (by decide +kernel) (by decide +kernel) (fun _ => rfl) (SndL.cons_ (fun _ => rfl) (Snd.var rfl (by decide +kernel) (by decide +kernel)) SndL.nil_)) Snd.kInt)) (SndL.cons_ (fun _ => rfl) Snd.kStr SndL.nil_))))
  (SndB.cons_ (SndS.swap (xs := [(Str.ofString "found"), (Str.ofString "power")]) (fun _ => rfl) (by intro env hk hl hc; have h0 := hl (Str.ofString "found") (by decide +kernel); have h1 := hl (Str.ofString "power") (by decide +kernel); simp only [swappedStores, Env.blockKind, hk, h0, h1, List.filterMap_cons, List.filterMap_nil]; rfl) rfl (Snd.tup (SndL.cons_ (fun _ => rfl) (Snd.ref (SndL.cons_ (fun _ => rfl) (Snd.r1 W (by decide +kernel)) SndL.nil_)) (SndL.cons_ (fun _ => rfl) (Snd.ucall W h_unit_matrix (by decide +kernel) (by decide +kernel) (fun _ => rfl) (SndL.cons_ (fun _ => rfl) (Snd.var rfl (by decide +kernel) (by decide +kernel)) SndL.nil_)) SndL.nil_))) (swap2 rfl rfl (by decide +kernel) (by decide +kernel) (by decide +kernel)))
  (SndB.cons_ (SndS.for_ (fun _ _ => rfl) (by intro h; cases h) (SndI.rng2 W (by decide +kernel) (fun _ => rfl) Snd.kInt (Snd.bin add_ok (Snd.var rfl (by decide +kernel) (by decide +kernel)) Snd.kInt)) (SndT.var rfl (.inl (by decide +kernel))) (SndB.cons_ (SndS.assign (fun _ => rfl) (fun _ _ _ _ => rfl) (fun _ => rfl) (Snd.ucall W h_mat_mul (by decide +kernel) (by decide +kernel) (fun _ => rfl) (SndL.cons_ (fun _ => rfl) (Snd.var rfl (by decide +kernel) (by decide +kernel)) (SndL.cons_ (fun _ => rfl) (Snd.var rfl (by decide +kernel) (by decide +kernel)) SndL.nil_))) (SndT.var rfl (.inl (by decide +kernel))))
  (SndB.cons_ (SndS.assign (fun _ => rfl) (fun _ _ _ _ => rfl) (fun _ => rfl) (Snd.ucall W h_rneg (by decide +kernel) (by decide +kernel) (fun _ => rfl) (SndL.cons_ (fun _ => rfl) (Snd.ucall W h_rdiv (by decide +kernel) (by decide +kernel) (fun _ => rfl) (SndL.cons_ (fun _ => rfl) (Snd.ucall W h_trace (by decide +kernel) (by decide +kernel) (fun _ => rfl) (SndL.cons_ (fun _ => rfl) (Snd.var rfl (by decide +kernel) (by decide +kernel)) SndL.nil_)) (SndL.cons_ (fun _ => rfl) (Snd.tup (SndL.cons_ (fun _ => rfl) (Snd.var rfl (by decide +kernel) (by decide +kernel)) (SndL.cons_ (fun _ => rfl) Snd.kInt SndL.nil_))) SndL.nil_))) SndL.nil_)) (SndT.var rfl (.inl (by decide +kernel))))
  (SndB.cons_ (SndS.expr (fun _ => rfl) (Snd.append_ (fun _ => rfl) rfl (fun _ => rfl) (Snd.var rfl (by decide +kernel) (by decide +kernel)) (Snd.var rfl (by decide +kernel) (by decide +kernel))))
  (SndB.cons_ (SndS.assign (fun _ => rfl) (fun _ _ _ _ => rfl) (fun _ => rfl) (Snd.ucall W h_mat_add (by decide +kernel) (by decide +kernel) (fun _ => rfl) (SndL.cons_ (fun _ => rfl) (Snd.var rfl (by decide +kernel) (by decide +kernel)) (SndL.cons_ (fun _ => rfl) (Snd.ucall W h_mat_scale (by decide +kernel) (by decide +kernel) (fun _ => rfl) (SndL.cons_ (fun _ => rfl) (Snd.ucall W h_unit_matrix (by decide +kernel) (by decide +kernel) (fun _ => rfl) (SndL.cons_ (fun _ => rfl) (Snd.var rfl (by decide +kernel) (by decide +kernel)) SndL.nil_)) (SndL.cons_ (fun _ => rfl) (Snd.var rfl (by decide +kernel) (by decide +kernel)) SndL.nil_))) SndL.nil_))) (SndT.var rfl (.inl (by decide +kernel))))
  SndB.nil_)))))
  (SndB.cons_ (SndS.expr (fun _ => rfl) (Snd.reverse_ (fun _ => rfl) rfl (Snd.var rfl (by decide +kernel) (by decide +kernel))))
  (SndB.cons_ (SndS.ret (Snd.var rfl (by decide +kernel) (by decide +kernel)))
  SndB.nil_))))))
noncomputable def sh_pivot_row : Sh := ⟨[Str.ofString "a", Str.ofString "step", Str.ofString "row"], [Str.ofString "range", Str.ofString "len"], [Str.ofString "a", Str.ofString "step", Str.ofString "row"], [], []⟩
noncomputable def c_pivot_row : SCmd := (bCons (sFor (iRng2 (cVar 1) (c1 lenD (cVar 0))) (tVar 2) (bCons (sIf (qVal (c2 neD (c2 idxD (c2 idxD (cVar 0) (cVar 2)) (cVar 1)) (cK (.int 0)))) (bCons (sRet (cVar 2))
  bNil) bNil)
  bNil))
  (bCons (sRet (cK .none))
  bNil))
noncomputable def pivot_rowF : Fn := mkFn 2 3 (c_pivot_row)
theorem w_pivot_row {prog : Program} {w : World} {h₀ : Heap} {mg mb : Str → Option Value} (W : Wd h₀ mg mb) (R : Fn_ h₀ mg (rc 32)) : CallOk prog w h₀ mg 1 (Str.ofString "pivot_row") (pivot_rowF) :=
  callOk_of (x := (Str.ofString "pivot_row")) (params := (rc 32).params) (body := (rc 32).body) (scope := (rc 32).scope) (ps := [(Str.ofString "a"), (Str.ofString "step")]) (sh := sh_pivot_row) (n := 0) W R (bind2 fun pm cd doc v0 v1 => rfl) (FnOk.of (by decide +kernel))
  (SndB.cons_ (SndS.for_ (fun _ _ => rfl) (by intro h; cases h) (SndI.rng2 W (by decide +kernel) (fun _ => rfl) (Snd.var rfl (by decide +kernel) (by decide +kernel)) (Snd.bltn W W.b_len (by decide +kernel) (by decide +kernel) len_ok (fun _ => rfl) (Snd.var rfl (by decide +kernel) (by decide +kernel)))) (SndT.var rfl (.inl (by decide +kernel))) (SndB.cons_ (SndS.if_ (SndQ.cmp ne_ok rfl (Snd.sub (fun _ _ => rfl) (Snd.sub (fun _ _ => rfl) (Snd.var rfl (by decide +kernel) (by decide +kernel)) (Snd.var rfl (by decide +kernel) (by decide +kernel))) (Snd.var rfl (by decide +kernel) (by decide +kernel))) Snd.kInt) (SndB.cons_ (SndS.ret (Snd.var rfl (by decide +kernel) (by decide +kernel)))
  SndB.nil_) SndB.nil_)
  SndB.nil_))
  (SndB.cons_ (SndS.ret Snd.kNone)
  SndB.nil_))
noncomputable def sh_bareiss_step : Sh := ⟨[Str.ofString "a", Str.ofString "step", Str.ofString "ahead", Str.ofString "lead", Str.ofString "row", Str.ofString "first", Str.ofString "column"], [Str.ofString "range", Str.ofString "len"], [Str.ofString "a", Str.ofString "step", Str.ofString "ahead", Str.ofString "lead", Str.ofString "row", Str.ofString "first", Str.ofString "column"], [], []⟩
noncomputable def c_bareiss_step : SCmd := (bCons (sAssign (c2 idxD (c2 idxD (cVar 0) (cVar 1)) (cVar 1)) (tVar 3))
  (bCons (sFor (iRng2 (c2 addD (cVar 1) (cK (.int 1))) (c1 lenD (cVar 0))) (tVar 4) (bCons (sAssign (c2 idxD (c2 idxD (cVar 0) (cVar 4)) (cVar 1)) (tVar 5))
  (bCons (sFor (iRng2 (c2 addD (cVar 1) (cK (.int 1))) (c1 lenD (cVar 0))) (tVar 6) (bCons (sAssign (c2 divD (c2 subD (c2 mulD (c2 idxD (c2 idxD (cVar 0) (cVar 4)) (cVar 6)) (cVar 3)) (c2 mulD (cVar 5) (c2 idxD (c2 idxD (cVar 0) (cVar 1)) (cVar 6)))) (cVar 2)) (tSub (c2 idxD (cVar 0) (cVar 4)) (cVar 6)))
  bNil))
  (bCons (sAssign (cK (.int 0)) (tSub (c2 idxD (cVar 0) (cVar 4)) (cVar 1)))
  bNil))))
  bNil))
noncomputable def bareiss_stepF : Fn := mkFn 3 7 (c_bareiss_step)
theorem w_bareiss_step {prog : Program} {w : World} {h₀ : Heap} {mg mb : Str → Option Value} (W : Wd h₀ mg mb) (R : Fn_ h₀ mg (rc 33)) : CallOk prog w h₀ mg 1 (Str.ofString "bareiss_step") (bareiss_stepF) :=
  callOk_of (x := (Str.ofString "bareiss_step")) (params := (rc 33).params) (body := (rc 33).body) (scope := (rc 33).scope) (ps := [(Str.ofString "a"), (Str.ofString "step"), (Str.ofString "ahead")]) (sh := sh_bareiss_step) (n := 0) W R (bind3 fun pm cd doc v0 v1 v2 => rfl) (FnOk.of (by decide +kernel))
  (SndB.cons_ (SndS.assign (fun _ => rfl) (fun _ _ _ _ => rfl) (fun _ => rfl) (Snd.sub (fun _ _ => rfl) (Snd.sub (fun _ _ => rfl) (Snd.var rfl (by decide +kernel) (by decide +kernel)) (Snd.var rfl (by decide +kernel) (by decide +kernel))) (Snd.var rfl (by decide +kernel) (by decide +kernel))) (SndT.var rfl (.inl (by decide +kernel))))
  (SndB.cons_ (SndS.for_ (fun _ _ => rfl) (by intro h; cases h) (SndI.rng2 W (by decide +kernel) (fun _ => rfl) (Snd.bin add_ok (Snd.var rfl (by decide +kernel) (by decide +kernel)) Snd.kInt) (Snd.bltn W W.b_len (by decide +kernel) (by decide +kernel) len_ok (fun _ => rfl) (Snd.var rfl (by decide +kernel) (by decide +kernel)))) (SndT.var rfl (.inl (by decide +kernel))) (SndB.cons_ (SndS.assign (fun _ => rfl) (fun _ _ _ _ => rfl) (fun _ => rfl) (Snd.sub (fun _ _ => rfl) (Snd.sub (fun _ _ => rfl) (Snd.var rfl (by decide +kernel) (by decide +kernel)) (Snd.var rfl (by decide +kernel) (by decide +kernel))) (Snd.var rfl (by decide +kernel) (by decide +kernel))) (SndT.var rfl (.inl (by decide +kernel))))
  (SndB.cons_ (SndS.for_ (fun _ _ => rfl) (by intro h; cases h) (SndI.rng2 W (by decide +kernel) (fun _ => rfl) (Snd.bin add_ok (Snd.var rfl (by decide +kernel) (by decide +kernel)) Snd.kInt) (Snd.bltn W W.b_len (by decide +kernel) (by decide +kernel) len_ok (fun _ => rfl) (Snd.var rfl (by decide +kernel) (by decide +kernel)))) (SndT.var rfl (.inl (by decide +kernel))) (SndB.cons_ (SndS.assign (fun _ => rfl) (fun _ _ _ _ => rfl) (fun _ => rfl) (Snd.bin div_ok (Snd.bin sub_ok (Snd.bin mul_ok (Snd.sub (fun _ _ => rfl) (Snd.sub (fun _ _ => rfl) (Snd.var rfl (by decide +kernel) (by decide +kernel)) (Snd.var rfl (by decide +kernel) (by decide +kernel))) (Snd.var rfl (by decide +kernel) (by decide +kernel))) (Snd.var rfl (by decide +kernel) (by decide +kernel))) (Snd.bin mul_ok (Snd.var rfl (by decide +kernel) (by decide +kernel)) (Snd.sub (fun _ _ => rfl) (Snd.sub (fun _ _ => rfl) (Snd.var rfl (by decide +kernel) (by decide +kernel)) (Snd.var rfl (by decide +kernel) (by decide +kernel))) (Snd.var rfl (by decide +kernel) (by decide +kernel))))) (Snd.var rfl (by decide +kernel) (by decide +kernel))) (SndT.sub (Snd.sub (fun _ _ => rfl) (Snd.var rfl (by decide +kernel) (by decide +kernel)) (Snd.var rfl (by decide +kernel) (by decide +kernel))) (Snd.var rfl (by decide +kernel) (by decide +kernel))))
  SndB.nil_))
  (SndB.cons_ (SndS.assign (fun _ => rfl) (fun _ _ _ _ => rfl) (fun _ => rfl) Snd.kInt (SndT.sub (Snd.sub (fun _ _ => rfl) (Snd.var rfl (by decide +kernel) (by decide +kernel)) (Snd.var rfl (by decide +kernel) (by decide +kernel))) (Snd.var rfl (by decide +kernel) (by decide +kernel))))
  SndB.nil_))))
  SndB.nil_))
noncomputable def sh_determinant : Sh := ⟨[Str.ofString "a", Str.ofString "row", Str.ofString "found", Str.ofString "sign", Str.ofString "ahead", Str.ofString "step"], [Str.ofString "CasFail", Str.ofString "range", Str.ofString "len", Str.ofString "pivot_row", Str.ofString "bareiss_step"], [Str.ofString "row", Str.ofString "found", Str.ofString "sign", Str.ofString "ahead", Str.ofString "step"], [Str.ofString "a"], [Str.ofString "a"]⟩
noncomputable def sh_determinant_1 : Sh := ⟨[Str.ofString ".0", Str.ofString "row", Str.ofString "a"], [Str.ofString "len"], [Str.ofString ".0", Str.ofString "row"], [], [Str.ofString "a"]⟩
noncomputable def sh_determinant_2 : Sh := ⟨[Str.ofString ".0", Str.ofString "row"], [Str.ofString "list"], [Str.ofString ".0", Str.ofString "row"], [], []⟩
noncomputable def c_determinant : SCmd := (bCons (sIf (qVal (c2 neD (cComp [none, none, some 0] (iLst (cVar 0)) (tVar 1) (fIf (qVal (c2 neD (c1 lenD (cVar 1)) (c1 lenD (cVar 2)))) (cVar 1))) (cLst cNil))) (bCons sRaise
  bNil) bNil)
  (bCons (sAssign (cTup (cCons (cCompR [none, none] (iLst (cVar 0)) (tVar 1) (fElt (c1 listM (cVar 1)))) (cCons (cK (.int 1)) (cCons (cK (.int 1)) cNil)))) (tTup [(tVar 2), (tVar 3), (tVar 4)]))
  (bCons (sFor (iRng1 (c1 lenD (cVar 0))) (tVar 5) (bCons (sAssign (cCall pivot_rowF (cCons (cVar 2) (cCons (cVar 5) cNil))) (tVar 1))
  (bCons (sIf (qVal (c2 isNoneD (cVar 1) (cK .none))) (bCons (sRet (cK (.int 0)))
  bNil) bNil)
  (bCons (sIf (qVal (c2 neD (cVar 1) (cVar 5))) (bCons (sAssign (cTup (cCons (c2 idxD (cVar 2) (cVar 5)) (cCons (c2 idxD (cVar 2) (cVar 1)) cNil))) (tTup [(tSub (cVar 2) (cVar 1)), (tSub (cVar 2) (cVar 5))]))
  (bCons (sAssign (c1 negD (cVar 3)) (tVar 3))
  bNil)) bNil)
  (bCons (sExpr (cCall bareiss_stepF (cCons (cVar 2) (cCons (cVar 5) (cCons (cVar 4) cNil)))))
  (bCons (sAssign (c2 idxD (c2 idxD (cVar 2) (cVar 5)) (cVar 5)) (tVar 4))
  bNil))))))
  (bCons (sRet (c2 mulD (cVar 3) (cVar 4)))
  bNil))))
noncomputable def determinantF : Fn := mkFn 1 6 (c_determinant)
theorem w_determinant {prog : Program} {w : World} {h₀ : Heap} {mg mb : Str → Option Value} (W : Wd h₀ mg mb) (R : Fn_ h₀ mg (rc 34)) (h_pivot_row : CallOk prog w h₀ mg 1 (Str.ofString "pivot_row") pivot_rowF) (h_bareiss_step : CallOk prog w h₀ mg 1 (Str.ofString "bareiss_step") bareiss_stepF) : CallOk prog w h₀ mg 2 (Str.ofString "determinant") (determinantF) :=
  callOk_of (x := (Str.ofString "determinant")) (params := (rc 34).params) (body := (rc 34).body) (scope := (rc 34).scope) (ps := [(Str.ofString "a")]) (sh := sh_determinant) (n := 1) W R (bind1 fun pm cd doc v0 => rfl) (FnOk.of (by decide +kernel))
  (SndB.cons_ (SndS.if_ (SndQ.cmp ne_ok rfl (Snd.lcIf (CompOk.of (sh := sh_determinant) (sh' := sh_determinant_1) (mp := [none, none, some 0]) (by decide +kernel)) (fun _ _ => rfl) (by intro h; cases h) (SndI.lst (Snd.var rfl (by decide +kernel) (by decide +kernel))) (SndT.var rfl (.inl (by decide +kernel))) (SndQ.cmp ne_ok rfl (Snd.bltn W W.b_len (by decide +kernel) (by decide +kernel) len_ok (fun _ => rfl) (Snd.var rfl (by decide +kernel) (by decide +kernel))) (Snd.bltn W W.b_len (by decide +kernel) (by decide +kernel) len_ok (fun _ => rfl) (Snd.var rfl (by decide +kernel) (by decide +kernel)))) (Snd.var rfl (by decide +kernel) (by decide +kernel))) (Snd.lst SndL.nil_)) (SndB.cons_ SndS.raise
  SndB.nil_) SndB.nil_)
  (SndB.cons_ (SndS.swap (xs := [(Str.ofString "found"), (Str.ofString "sign"), (Str.ofString "ahead")]) (fun _ => rfl) (by intro env hk hl hc; have h0 := hl (Str.ofString "found") (by decide +kernel); have h1 := hl (Str.ofString "sign") (by decide +kernel); have h2 := hl (Str.ofString "ahead") (by decide +kernel); simp only [swappedStores, Env.blockKind, hk, h0, h1, h2, List.filterMap_cons, List.filterMap_nil]; rfl) rfl (Snd.tup (SndL.cons_ (fun _ => rfl) (Snd.lcR (CompOk.of (sh := sh_determinant) (sh' := sh_determinant_2) (mp := [none, none]) (by decide +kernel)) (fun _ _ => rfl) (by intro h; cases h) (SndI.lst (Snd.var rfl (by decide +kernel) (by decide +kernel))) (SndT.var rfl (.inl (by decide +kernel))) (Snd.typ W W.b_list (by decide +kernel) (by decide +kernel) listM_ok (fun _ => rfl) (Snd.var rfl (by decide +kernel) (by decide +kernel)))) (SndL.cons_ (fun _ => rfl) Snd.kInt (SndL.cons_ (fun _ => rfl) Snd.kInt SndL.nil_)))) (swap3 rfl rfl rfl (by decide +kernel) (by decide +kernel) (by decide +kernel) (by decide +kernel) (by decide +kernel) (by decide +kernel)))
  (SndB.cons_ (SndS.for_ (fun _ _ => rfl) (by intro h; cases h) (SndI.rng1 W (by decide +kernel) (fun _ => rfl) (Snd.bltn W W.b_len (by decide +kernel) (by decide +kernel) len_ok (fun _ => rfl) (Snd.var rfl (by decide +kernel) (by decide +kernel)))) (SndT.var rfl (.inl (by decide +kernel))) (SndB.cons_ (SndS.assign (fun _ => rfl) (fun _ _ _ _ => rfl) (fun _ => rfl) (Snd.ucall W h_pivot_row (by decide +kernel) (by decide +kernel) (fun _ => rfl) (SndL.cons_ (fun _ => rfl) (Snd.var rfl (by decide +kernel) (by decide +kernel)) (SndL.cons_ (fun _ => rfl) (Snd.var rfl (by decide +kernel) (by decide +kernel)) SndL.nil_))) (SndT.var rfl (.inl (by decide +kernel))))
  (SndB.cons_ (SndS.if_ (SndQ.cmp isNone_ok rfl (Snd.var rfl (by decide +kernel) (by decide +kernel)) Snd.kNone) (SndB.cons_ (SndS.ret Snd.kInt)
  SndB.nil_) SndB.nil_)
  (SndB.cons_ (SndS.if_ (SndQ.cmp ne_ok rfl (Snd.var rfl (by decide +kernel) (by decide +kernel)) (Snd.var rfl (by decide +kernel) (by decide +kernel))) (SndB.cons_ (SndS.assign (fun _ => rfl) (by intro env hk hl hc; simp only [swappedStores, Env.blockKind, hk, List.filterMap_cons, List.filterMap_nil]; rfl) (fun _ => rfl) (Snd.tup (SndL.cons_ (fun _ => rfl) (Snd.sub (fun _ _ => rfl) (Snd.var rfl (by decide +kernel) (by decide +kernel)) (Snd.var rfl (by decide +kernel) (by decide +kernel))) (SndL.cons_ (fun _ => rfl) (Snd.sub (fun _ _ => rfl) (Snd.var rfl (by decide +kernel) (by decide +kernel)) (Snd.var rfl (by decide +kernel) (by decide +kernel))) SndL.nil_))) (SndT.tup (fun _ => rfl) (fun _ => rfl) (SndTL.cons_ (fun _ => rfl) (SndT.sub (Snd.var rfl (by decide +kernel) (by decide +kernel)) (Snd.var rfl (by decide +kernel) (by decide +kernel))) (SndTL.cons_ (fun _ => rfl) (SndT.sub (Snd.var rfl (by decide +kernel) (by decide +kernel)) (Snd.var rfl (by decide +kernel) (by decide +kernel))) SndTL.nil_))))
  (SndB.cons_ (SndS.assign (fun _ => rfl) (fun _ _ _ _ => rfl) (fun _ => rfl) (Snd.neg neg_ok (Snd.var rfl (by decide +kernel) (by decide +kernel))) (SndT.var rfl (.inl (by decide +kernel))))
  SndB.nil_)) SndB.nil_)
  (SndB.cons_ (SndS.expr (fun _ => rfl) (Snd.ucall W h_bareiss_step (by decide +kernel) (by decide +kernel) (fun _ => rfl) (SndL.cons_ (fun _ => rfl) (Snd.var rfl (by decide +kernel) (by decide +kernel)) (SndL.cons_ (fun _ => rfl) (Snd.var rfl (by decide +kernel) (by decide +kernel)) (SndL.cons_ (fun _ => rfl) (Snd.var rfl (by decide +kernel) (by decide +kernel)) SndL.nil_)))))
  (SndB.cons_ (SndS.assign (fun _ => rfl) (fun _ _ _ _ => rfl) (fun _ => rfl) (Snd.sub (fun _ _ => rfl) (Snd.sub (fun _ _ => rfl) (Snd.var rfl (by decide +kernel) (by decide +kernel)) (Snd.var rfl (by decide +kernel) (by decide +kernel))) (Snd.var rfl (by decide +kernel) (by decide +kernel))) (SndT.var rfl (.inl (by decide +kernel))))
  SndB.nil_))))))
  (SndB.cons_ (SndS.ret (Snd.bin mul_ok (Snd.var rfl (by decide +kernel) (by decide +kernel)) (Snd.var rfl (by decide +kernel) (by decide +kernel))))
  SndB.nil_))))
noncomputable def sh_null_base : Sh := ⟨[Str.ofString "a", Str.ofString "reduced", Str.ofString "pivots", Str.ofString "found", Str.ofString "column", Str.ofString "one", Str.ofString "at", Str.ofString "spot"], [Str.ofString "echelon", Str.ofString "range", Str.ofString "shape", Str.ofString "R0", Str.ofString "R1", Str.ofString "enumerate", Str.ofString "rneg"], [Str.ofString "a", Str.ofString "reduced", Str.ofString "pivots", Str.ofString "found", Str.ofString "column", Str.ofString "one", Str.ofString "at", Str.ofString "spot"], [], []⟩
noncomputable def c_null_base : SCmd := (bCons (sAssign (cCall echelonF (cCons (cVar 0) cNil)) (tTup [(tVar 1), (tVar 2)]))
  (bCons (sAssign (cRef cNil) (tVar 3))
  (bCons (sFor (iRng1 (c2 idxD (cCall shapeF (cCons (cVar 0) cNil)) (cK (.int 1)))) (tVar 4) (bCons (sIf (qVal (c2 inD (cVar 4) (cVar 2))) (bCons sCont
  bNil) bNil)
  (bCons (sAssign (c2 mulD (cLst (cCons (cK (.tup [.int 0, .int 1])) cNil)) (c2 idxD (cCall shapeF (cCons (cVar 0) cNil)) (cK (.int 1)))) (tVar 5))
  (bCons (sAssign (cK (.tup [.int 1, .int 1])) (tSub (cVar 5) (cVar 4)))
  (bCons (sFor (iEnm (cVar 2)) (tTup [(tVar 6), (tVar 7)]) (bCons (sAssign (cCall rnegF (cCons (c2 idxD (c2 idxD (cVar 1) (cVar 6)) (cVar 4)) cNil)) (tSub (cVar 5) (cVar 7)))
  bNil))
  (bCons (sExpr (cApp (cVar 3) (cVar 5)))
  bNil))))))
  (bCons (sRet (cVar 3))
  bNil))))
noncomputable def null_baseF : Fn := mkFn 1 8 (c_null_base)
theorem w_null_base {prog : Program} {w : World} {h₀ : Heap} {mg mb : Str → Option Value} (W : Wd h₀ mg mb) (R : Fn_ h₀ mg (rc 36)) (h_rneg : CallOk prog w h₀ mg 5 (Str.ofString "rneg") rnegF) (h_shape : CallOk prog w h₀ mg 5 (Str.ofString "shape") shapeF) (h_echelon : CallOk prog w h₀ mg 5 (Str.ofString "echelon") echelonF) : CallOk prog w h₀ mg 6 (Str.ofString "null_base") (null_baseF) :=
  callOk_of (x := (Str.ofString "null_base")) (params := (rc 36).params) (body := (rc 36).body) (scope := (rc 36).scope) (ps := [(Str.ofString "a")]) (sh := sh_null_base) (n := 5) W R (bind1 fun pm cd doc v0 => rfl) (FnOk.of (by decide +kernel))
  (SndB.cons_ (SndS.assign (fun _ => rfl) (fun _ _ _ _ => rfl) (fun _ => rfl) (Snd.ucall W h_echelon (by decide +kernel) (by decide +kernel) (fun _ => rfl) (SndL.cons_ (fun _ => rfl) (Snd.var rfl (by decide +kernel) (by decide +kernel)) SndL.nil_)) (SndT.tup (fun _ => rfl) (fun _ => rfl) (SndTL.cons_ (fun _ => rfl) (SndT.var rfl (.inl (by decide +kernel))) (SndTL.cons_ (fun _ => rfl) (SndT.var rfl (.inl (by decide +kernel))) SndTL.nil_))))
  (SndB.cons_ (SndS.assign (fun _ => rfl) (fun _ _ _ _ => rfl) (fun _ => rfl) (Snd.ref SndL.nil_) (SndT.var rfl (.inl (by decide +kernel))))
  (SndB.cons_ (SndS.for_ (fun _ _ => rfl) (by intro h; cases h) (SndI.rng1 W (by decide +kernel) (fun _ => rfl) (Snd.sub (fun _ _ => rfl) (Snd.ucall W h_shape (by decide +kernel) (by decide +kernel) (fun _ => rfl) (SndL.cons_ (fun _ => rfl) (Snd.var rfl (by decide +kernel) (by decide +kernel)) SndL.nil_)) Snd.kInt)) (SndT.var rfl (.inl (by decide +kernel))) (SndB.cons_ (SndS.if_ (SndQ.cmp in_ok rfl (Snd.var rfl (by decide +kernel) (by decide +kernel)) (Snd.var rfl (by decide +kernel) (by decide +kernel))) (SndB.cons_ SndS.cont
  SndB.nil_) SndB.nil_)
  (SndB.cons_ (SndS.assign (fun _ => rfl) (fun _ _ _ _ => rfl) (fun _ => rfl) (Snd.bin mul_ok (Snd.lst (SndL.cons_ (fun _ => rfl) (Snd.r0 W (by decide +kernel)) SndL.nil_)) (Snd.sub (fun _ _ => rfl) (Snd.ucall W h_shape (by decide +kernel) (by decide +kernel) (fun _ => rfl) (SndL.cons_ (fun _ => rfl) (Snd.var rfl (by decide +kernel) (by decide +kernel)) SndL.nil_)) Snd.kInt)) (SndT.var rfl (.inl (by decide +kernel))))
  (SndB.cons_ (SndS.assign (fun _ => rfl) (fun _ _ _ _ => rfl) (fun _ => rfl) (Snd.r1 W (by decide +kernel)) (SndT.sub (Snd.var rfl (by decide +kernel) (by decide +kernel)) (Snd.var rfl (by decide +kernel) (by decide +kernel))))
  (SndB.cons_ (SndS.for_ (fun _ _ => rfl) (fun _ => ⟨_, _, _, rfl⟩) (SndI.enm W (by decide +kernel) (fun _ => rfl) (Snd.var rfl (by decide +kernel) (by decide +kernel))) (SndT.tup (fun _ => rfl) (fun _ => rfl) (SndTL.cons_ (fun _ => rfl) (SndT.var rfl (.inl (by decide +kernel))) (SndTL.cons_ (fun _ => rfl) (SndT.var rfl (.inl (by decide +kernel))) SndTL.nil_))) (SndB.cons_ (SndS.assign (fun _ => rfl) (fun _ _ _ _ => rfl) (fun _ => rfl) (Snd.ucall W h_rneg (by decide +kernel) (by decide +kernel) (fun _ => rfl) (SndL.cons_ (fun _ => rfl) (Snd.sub (fun _ _ => rfl) (Snd.sub (fun _ _ => rfl) (Snd.var rfl (by decide +kernel) (by decide +kernel)) (Snd.var rfl (by decide +kernel) (by decide +kernel))) (Snd.var rfl (by decide +kernel) (by decide +kernel))) SndL.nil_)) (SndT.sub (Snd.var rfl (by decide +kernel) (by decide +kernel)) (Snd.var rfl (by decide +kernel) (by decide +kernel))))
  SndB.nil_))
  (SndB.cons_ (SndS.expr (fun _ => rfl) (Snd.append_ (fun _ => rfl) rfl (fun _ => rfl) (Snd.var rfl (by decide +kernel) (by decide +kernel)) (Snd.var rfl (by decide +kernel) (by decide +kernel))))
  SndB.nil_))))))
  (SndB.cons_ (SndS.ret (Snd.var rfl (by decide +kernel) (by decide +kernel)))
  SndB.nil_))))
noncomputable def sh_solve_system : Sh := ⟨[Str.ofString "a", Str.ofString "b", Str.ofString "width", Str.ofString "at", Str.ofString "reduced", Str.ofString "pivots", Str.ofString "found", Str.ofString "column"], [Str.ofString "need_shape", Str.ofString "len", Str.ofString "shape", Str.ofString "echelon", Str.ofString "enumerate", Str.ofString "null_base", Str.ofString "R0"], [Str.ofString "a", Str.ofString "width", Str.ofString "at", Str.ofString "reduced", Str.ofString "pivots", Str.ofString "found", Str.ofString "column"], [Str.ofString "b"], [Str.ofString "b"]⟩
noncomputable def sh_solve_system_1 : Sh := ⟨[Str.ofString ".0", Str.ofString "at", Str.ofString "row", Str.ofString "b"], [Str.ofString "list"], [Str.ofString ".0", Str.ofString "at", Str.ofString "row"], [], [Str.ofString "b"]⟩
noncomputable def c_solve_system : SCmd := (bCons (sExpr (cCall need_shapeF (cCons (c2 eqD (c1 lenD (cVar 0)) (c1 lenD (cVar 1))) (cCons (cK (.str (Str.ofString "as many numbers as rows are wanted"))) cNil))))
  (bCons (sAssign (c2 idxD (cCall shapeF (cCons (cVar 0) cNil)) (cK (.int 1))) (tVar 2))
  (bCons (sAssign (cCall echelonF (cCons (cComp [none, none, none, some 1] (iEnm (cVar 0)) (tTup [(tVar 1), (tVar 2)]) (fElt (c2 addD (c1 listV (cVar 2)) (cLst (cCons (c2 idxD (cVar 3) (cVar 1)) cNil))))) cNil)) (tTup [(tVar 4), (tVar 5)]))
  (bCons (sIf (qVal (c2 inD (cVar 2) (cVar 5))) (bCons (sRet (cTup (cCons (cK .none) (cCons (cCall null_baseF (cCons (cVar 0) cNil)) cNil))))
  bNil) bNil)
  (bCons (sAssign (c2 mulD (cLst (cCons (cK (.tup [.int 0, .int 1])) cNil)) (cVar 2)) (tVar 6))
  (bCons (sFor (iEnm (cVar 5)) (tTup [(tVar 3), (tVar 7)]) (bCons (sAssign (c2 idxD (c2 idxD (cVar 4) (cVar 3)) (cVar 2)) (tSub (cVar 6) (cVar 7)))
  bNil))
  (bCons (sRet (cTup (cCons (cVar 6) (cCons (cCall null_baseF (cCons (cVar 0) cNil)) cNil))))
  bNil)))))))
noncomputable def solve_systemF : Fn := mkFn 2 8 (c_solve_system)
theorem w_solve_system {prog : Program} {w : World} {h₀ : Heap} {mg mb : Str → Option Value} (W : Wd h₀ mg mb) (R : Fn_ h₀ mg (rc 37)) (h_shape : CallOk prog w h₀ mg 6 (Str.ofString "shape") shapeF) (h_need_shape : CallOk prog w h₀ mg 6 (Str.ofString "need_shape") need_shapeF) (h_echelon : CallOk prog w h₀ mg 6 (Str.ofString "echelon") echelonF) (h_null_base : CallOk prog w h₀ mg 6 (Str.ofString "null_base") null_baseF) : CallOk prog w h₀ mg 7 (Str.ofString "solve_system") (solve_systemF) :=
  callOk_of (x := (Str.ofString "solve_system")) (params := (rc 37).params) (body := (rc 37).body) (scope := (rc 37).scope) (ps := [(Str.ofString "a"), (Str.ofString "b")]) (sh := sh_solve_system) (n := 6) W R (bind2 fun pm cd doc v0 v1 => rfl) (FnOk.of (by decide +kernel))
  (SndB.cons_ (SndS.expr (fun _ => rfl) (Snd.ucall W h_need_shape (by decide +kernel) (by decide +kernel) (fun _ => rfl) (SndL.cons_ (fun _ => rfl) (Snd.cmp eq_ok rfl (Snd.bltn W W.b_len (by decide +kernel) (by decide +kernel) len_ok (fun _ => rfl) (Snd.var rfl (by decide +kernel) (by decide +kernel))) (Snd.bltn W W.b_len (by decide +kernel) (by decide +kernel) len_ok (fun _ => rfl) (Snd.var rfl (by decide +kernel) (by decide +kernel)))) (SndL.cons_ (fun _ => rfl) Snd.kStr SndL.nil_))))
  (SndB.cons_ (SndS.assign (fun _ => rfl) (fun _ _ _ _ => rfl) (fun _ => rfl) (Snd.sub (fun _ _ => rfl) (Snd.ucall W h_shape (by decide +kernel) (by decide +kernel) (fun _ => rfl) (SndL.cons_ (fun _ => rfl) (Snd.var rfl (by decide +kernel) (by decide +kernel)) SndL.nil_)) Snd.kInt) (SndT.var rfl (.inl (by decide +kernel))))
  (SndB.cons_ (SndS.assign (fun _ => rfl) (fun _ _ _ _ => rfl) (fun _ => rfl) (Snd.ucall W h_echelon (by decide +kernel) (by decide +kernel) (fun _ => rfl) (SndL.cons_ (fun _ => rfl) (Snd.lc (CompOk.of (sh := sh_solve_system) (sh' := sh_solve_system_1) (mp := [none, none, none, some 1]) (by decide +kernel)) (fun _ _ => rfl) (fun _ => ⟨_, _, _, rfl⟩) (SndI.enm W (by decide +kernel) (fun _ => rfl) (Snd.var rfl (by decide +kernel) (by decide +kernel))) (SndT.tup (fun _ => rfl) (fun _ => rfl) (SndTL.cons_ (fun _ => rfl) (SndT.var rfl (.inl (by decide +kernel))) (SndTL.cons_ (fun _ => rfl) (SndT.var rfl (.inl (by decide +kernel))) SndTL.nil_))) (Snd.bin add_ok (Snd.typ W W.b_list (by decide +kernel) (by decide +kernel) listV_ok (fun _ => rfl) (Snd.var rfl (by decide +kernel) (by decide +kernel))) (Snd.lst (SndL.cons_ (fun _ => rfl) (Snd.sub (fun _ _ => rfl) (Snd.var rfl (by decide +kernel) (by decide +kernel)) (Snd.var rfl (by decide +kernel) (by decide +kernel))) SndL.nil_)))) SndL.nil_)) (SndT.tup (fun _ => rfl) (fun _ => rfl) (SndTL.cons_ (fun _ => rfl) (SndT.var rfl (.inl (by decide +kernel))) (SndTL.cons_ (fun _ => rfl) (SndT.var rfl (.inl (by decide +kernel))) SndTL.nil_))))
  (SndB.cons_ (SndS.if_ (SndQ.cmp in_ok rfl (Snd.var rfl (by decide +kernel) (by decide +kernel)) (Snd.var rfl (by decide +kernel) (by decide +kernel))) (SndB.cons_ (SndS.ret (Snd.tup (SndL.cons_ (fun _ => rfl) Snd.kNone (SndL.cons_ (fun _ => rfl) (Snd.ucall W h_null_base (by decide +kernel) (by decide +kernel) (fun _ => rfl) (SndL.cons_ (fun _ => rfl) (Snd.var rfl (by decide +kernel) (by decide +kernel)) SndL.nil_)) SndL.nil_))))
  SndB.nil_) SndB.nil_)
  (SndB.cons_ (SndS.assign (fun _ => rfl) (fun _ _ _ _ => rfl) (fun _ => rfl) (Snd.bin mul_ok (Snd.lst (SndL.cons_ (fun _ => rfl) (Snd.r0 W (by decide +kernel)) SndL.nil_)) (Snd.var rfl (by decide +kernel) (by decide +kernel))) (SndT.var rfl (.inl (by decide +kernel))))
  (SndB.cons_ (SndS.for_ (fun _ _ => rfl) (fun _ => ⟨_, _, _, rfl⟩) (SndI.enm W (by decide +kernel) (fun _ => rfl) (Snd.var rfl (by decide +kernel) (by decide +kernel))) (SndT.tup (fun _ => rfl) (fun _ => rfl) (SndTL.cons_ (fun _ => rfl) (SndT.var rfl (.inl (by decide +kernel))) (SndTL.cons_ (fun _ => rfl) (SndT.var rfl (.inl (by decide +kernel))) SndTL.nil_))) (SndB.cons_ (SndS.assign (fun _ => rfl) (fun _ _ _ _ => rfl) (fun _ => rfl) (Snd.sub (fun _ _ => rfl) (Snd.sub (fun _ _ => rfl) (Snd.var rfl (by decide +kernel) (by decide +kernel)) (Snd.var rfl (by decide +kernel) (by decide +kernel))) (Snd.var rfl (by decide +kernel) (by decide +kernel))) (SndT.sub (Snd.var rfl (by decide +kernel) (by decide +kernel)) (Snd.var rfl (by decide +kernel) (by decide +kernel))))
  SndB.nil_))
  (SndB.cons_ (SndS.ret (Snd.tup (SndL.cons_ (fun _ => rfl) (Snd.var rfl (by decide +kernel) (by decide +kernel)) (SndL.cons_ (fun _ => rfl) (Snd.ucall W h_null_base (by decide +kernel) (by decide +kernel) (fun _ => rfl) (SndL.cons_ (fun _ => rfl) (Snd.var rfl (by decide +kernel) (by decide +kernel)) SndL.nil_)) SndL.nil_))))
  SndB.nil_)))))))
end Mine
-- G4
namespace Mine
open PySem PySem.W PyProof.Rows
set_option maxHeartbeats 4000000
noncomputable def sh_law_draw : Sh := ⟨[Str.ofString "pool", Str.ofString "many", Str.ofString "spot"], [Str.ofString "len", Str.ofString "abs"], [Str.ofString "pool", Str.ofString "many", Str.ofString "spot"], [], []⟩
noncomputable def c_law_draw : SCmd := (bCons (sAssign (c2 idxD (cVar 0) (cK (.int 1))) (tVar 2))
  (bCons (sAssign (c2 addD (cVar 2) (cK (.int 1))) (tSub (cVar 0) (cK (.int 1))))
  (bCons (sIf (qVal (c2 ltD (cVar 2) (c1 lenD (c2 idxD (cVar 0) (cK (.int 0)))))) (bCons (sRet (c2 modD (c1 absD (c2 idxD (c2 idxD (cVar 0) (cK (.int 0))) (cVar 2))) (cVar 1)))
  bNil) bNil)
  (bCons (sRet (c2 modD (c2 idxD (cTup (cCons (cK (.int 0)) (cCons (cK (.int 1)) (cCons (cK (.int 2)) (cCons (cK (.int 0)) (cCons (cK (.int 1)) (cCons (cK (.int 2)) cNil))))))) (c2 modD (cVar 2) (cK (.int 6)))) (cVar 1)))
  bNil))))
noncomputable def law_drawF : Fn := mkFn 2 3 (c_law_draw)
theorem w_law_draw {prog : Program} {w : World} {h₀ : Heap} {mg mb : Str → Option Value} (W : Wd h₀ mg mb) (R : Fn_ h₀ mg (rc 39)) : CallOk prog w h₀ mg 1 (Str.ofString "_law_draw") (law_drawF) :=
  callOk_of (x := (Str.ofString "_law_draw")) (params := (rc 39).params) (body := (rc 39).body) (scope := (rc 39).scope) (ps := [(Str.ofString "pool"), (Str.ofString "many")]) (sh := sh_law_draw) (n := 0) W R (bind2 fun pm cd doc v0 v1 => rfl) (FnOk.of (by decide +kernel))
  (SndB.cons_ (SndS.assign (fun _ => rfl) (fun _ _ _ _ => rfl) (fun _ => rfl) (Snd.sub (fun _ _ => rfl) (Snd.var rfl (by decide +kernel) (by decide +kernel)) Snd.kInt) (SndT.var rfl (.inl (by decide +kernel))))
  (SndB.cons_ (SndS.assign (fun _ => rfl) (fun _ _ _ _ => rfl) (fun _ => rfl) (Snd.bin add_ok (Snd.var rfl (by decide +kernel) (by decide +kernel)) Snd.kInt) (SndT.sub (Snd.var rfl (by decide +kernel) (by decide +kernel)) Snd.kInt))
  (SndB.cons_ (SndS.if_ (SndQ.cmp lt_ok rfl (Snd.var rfl (by decide +kernel) (by decide +kernel)) (Snd.bltn W W.b_len (by decide +kernel) (by decide +kernel) len_ok (fun _ => rfl) (Snd.sub (fun _ _ => rfl) (Snd.var rfl (by decide +kernel) (by decide +kernel)) Snd.kInt))) (SndB.cons_ (SndS.ret (Snd.bin mod_ok (Snd.bltn W W.b_abs (by decide +kernel) (by decide +kernel) abs_ok (fun _ => rfl) (Snd.sub (fun _ _ => rfl) (Snd.sub (fun _ _ => rfl) (Snd.var rfl (by decide +kernel) (by decide +kernel)) Snd.kInt) (Snd.var rfl (by decide +kernel) (by decide +kernel)))) (Snd.var rfl (by decide +kernel) (by decide +kernel))))
  SndB.nil_) SndB.nil_)
  (SndB.cons_ (SndS.ret (Snd.bin mod_ok (Snd.sub (fun _ _ => rfl) (Snd.tup (SndL.cons_ (fun _ => rfl) Snd.kInt (SndL.cons_ (fun _ => rfl) Snd.kInt (SndL.cons_ (fun _ => rfl) Snd.kInt (SndL.cons_ (fun _ => rfl) Snd.kInt (SndL.cons_ (fun _ => rfl) Snd.kInt (SndL.cons_ (fun _ => rfl) Snd.kInt SndL.nil_))))))) (Snd.bin mod_ok (Snd.var rfl (by decide +kernel) (by decide +kernel)) Snd.kInt)) (Snd.var rfl (by decide +kernel) (by decide +kernel))))
  SndB.nil_))))
noncomputable def sh_law_ways : Sh := ⟨[Str.ofString "n", Str.ofString "lines", Str.ofString "lots", Str.ofString "at", Str.ofString "line", Str.ofString "more", Str.ofString "chosen", Str.ofString "marks", Str.ofString "one", Str.ofString "other"], [Str.ofString "list", Str.ofString "range", Str.ofString "enumerate"], [Str.ofString "lines", Str.ofString "lots", Str.ofString "at", Str.ofString "line", Str.ofString "more", Str.ofString "chosen", Str.ofString "marks"], [Str.ofString "n", Str.ofString "one", Str.ofString "other"], [Str.ofString "n", Str.ofString "one", Str.ofString "other"]⟩
noncomputable def sh_law_ways_1 : Sh := ⟨[Str.ofString ".0", Str.ofString "mark", Str.ofString "one", Str.ofString "other"], [], [Str.ofString ".0", Str.ofString "mark"], [], [Str.ofString "one", Str.ofString "other"]⟩
noncomputable def sh_law_ways_2 : Sh := ⟨[Str.ofString ".0", Str.ofString "chosen", Str.ofString "marks", Str.ofString "n"], [Str.ofString "len"], [Str.ofString ".0", Str.ofString "chosen", Str.ofString "marks"], [], [Str.ofString "n"]⟩
noncomputable def c_law_ways : SCmd := (bCons (sAssign (cLst (cCons (cTup (cCons (cLst cNil) (cCons (c1 lrD (cVar 0)) cNil))) cNil)) (tVar 2))
  (bCons (sFor (iEnm (cVar 1)) (tTup [(tVar 3), (tVar 4)]) (bCons (sAssign (cRef cNil) (tVar 5))
  (bCons (sFor (iLst (cVar 2)) (tTup [(tVar 6), (tVar 7)]) (bCons (sAssign (cTup (cCons (c2 idxD (cVar 7) (c2 idxD (cVar 4) (cK (.int 0)))) (cCons (c2 idxD (cVar 7) (c2 idxD (cVar 4) (cK (.int 1)))) cNil))) (tTup [(tVar 8), (tVar 9)]))
  (bCons (sIf (qVal (c2 neD (cVar 8) (cVar 9))) (bCons (sExpr (cApp (cVar 5) (cTup (cCons (c2 addD (cVar 6) (cLst (cCons (cVar 3) cNil))) (cCons (cComp [none, none, some 8, some 9] (iLst (cVar 7)) (tVar 1) (fElt (cIf (qVal (c2 eqD (cVar 1) (cVar 3))) (cVar 2) (cVar 1)))) cNil)))))
  bNil) bNil)
  bNil)))
  (bCons (sAssign (c2 addD (cVar 2) (cVar 5)) (tVar 2))
  bNil))))
  (bCons (sRet (cComp [none, none, none, some 0] (iLst (cVar 2)) (tTup [(tVar 1), (tVar 2)]) (fIf (qVal (c2 eqD (c1 lenD (cVar 1)) (c2 subD (cVar 3) (cK (.int 1))))) (cVar 1))))
  bNil)))
noncomputable def law_waysF : Fn := mkFn 2 10 (c_law_ways)
theorem w_law_ways {prog : Program} {w : World} {h₀ : Heap} {mg mb : Str → Option Value} (W : Wd h₀ mg mb) (R : Fn_ h₀ mg (rc 40)) : CallOk prog w h₀ mg 1 (Str.ofString "_law_ways") (law_waysF) :=
  callOk_of (x := (Str.ofString "_law_ways")) (params := (rc 40).params) (body := (rc 40).body) (scope := (rc 40).scope) (ps := [(Str.ofString "n"), (Str.ofString "lines")]) (sh := sh_law_ways) (n := 0) W R (bind2 fun pm cd doc v0 v1 => rfl) (FnOk.of (by decide +kernel))
  (SndB.cons_ (SndS.assign (fun _ => rfl) (fun _ _ _ _ => rfl) (fun _ => rfl) (Snd.lst (SndL.cons_ (fun _ => rfl) (Snd.tup (SndL.cons_ (fun _ => rfl) (Snd.lst SndL.nil_) (SndL.cons_ (fun _ => rfl) (Snd.lrange W (by decide +kernel) (by decide +kernel) (fun _ => rfl) (Snd.var rfl (by decide +kernel) (by decide +kernel))) SndL.nil_))) SndL.nil_)) (SndT.var rfl (.inl (by decide +kernel))))
  (SndB.cons_ (SndS.for_ (fun _ _ => rfl) (fun _ => ⟨_, _, _, rfl⟩) (SndI.enm W (by decide +kernel) (fun _ => rfl) (Snd.var rfl (by decide +kernel) (by decide +kernel))) (SndT.tup (fun _ => rfl) (fun _ => rfl) (SndTL.cons_ (fun _ => rfl) (SndT.var rfl (.inl (by decide +kernel))) (SndTL.cons_ (fun _ => rfl) (SndT.var rfl (.inl (by decide +kernel))) SndTL.nil_))) (SndB.cons_ (SndS.assign (fun _ => rfl) (fun _ _ _ _ => rfl) (fun _ => rfl) (Snd.ref SndL.nil_) (SndT.var rfl (.inl (by decide +kernel))))
  (SndB.cons_ (SndS.for_ (fun _ _ => rfl) (by intro h; cases h) (SndI.lst (Snd.var rfl (by decide +kernel) (by decide +kernel))) (SndT.tup (fun _ => rfl) (fun _ => rfl) (SndTL.cons_ (fun _ => rfl) (SndT.var rfl (.inl (by decide +kernel))) (SndTL.cons_ (fun _ => rfl) (SndT.var rfl (.inl (by decide +kernel))) SndTL.nil_))) (SndB.cons_ (SndS.assign (fun _ => rfl) (by intro env hk hl hc; have h0 := hc (Str.ofString "one") (by decide +kernel); have h1 := hc (Str.ofString "other") (by decide +kernel); simp only [swappedStores, Env.blockKind, hk, h0, h1, List.filterMap_cons, List.filterMap_nil]; rfl) (fun _ => rfl) (Snd.tup (SndL.cons_ (fun _ => rfl) (Snd.sub (fun _ _ => rfl) (Snd.var rfl (by decide +kernel) (by decide +kernel)) (Snd.sub (fun _ _ => rfl) (Snd.var rfl (by decide +kernel) (by decide +kernel)) Snd.kInt)) (SndL.cons_ (fun _ => rfl) (Snd.sub (fun _ _ => rfl) (Snd.var rfl (by decide +kernel) (by decide +kernel)) (Snd.sub (fun _ _ => rfl) (Snd.var rfl (by decide +kernel) (by decide +kernel)) Snd.kInt)) SndL.nil_))) (SndT.tup (fun _ => rfl) (fun _ => rfl) (SndTL.cons_ (fun _ => rfl) (SndT.var rfl (.inr (by decide +kernel))) (SndTL.cons_ (fun _ => rfl) (SndT.var rfl (.inr (by decide +kernel))) SndTL.nil_))))
  (SndB.cons_ (SndS.if_ (SndQ.cmp ne_ok rfl (Snd.var rfl (by decide +kernel) (by decide +kernel)) (Snd.var rfl (by decide +kernel) (by decide +kernel))) (SndB.cons_ (SndS.expr (fun _ => rfl) (Snd.append_ (fun _ => rfl) rfl (fun _ => rfl) (Snd.var rfl (by decide +kernel) (by decide +kernel)) (Snd.tup (SndL.cons_ (fun _ => rfl) (Snd.bin add_ok (Snd.var rfl (by decide +kernel) (by decide +kernel)) (Snd.lst (SndL.cons_ (fun _ => rfl) (Snd.var rfl (by decide +kernel) (by decide +kernel)) SndL.nil_))) (SndL.cons_ (fun _ => rfl) (Snd.lc (CompOk.of (sh := sh_law_ways) (sh' := sh_law_ways_1) (mp := [none, none, some 8, some 9]) (by decide +kernel)) (fun _ _ => rfl) (by intro h; cases h) (SndI.lst (Snd.var rfl (by decide +kernel) (by decide +kernel))) (SndT.var rfl (.inl (by decide +kernel))) (Snd.ifexp (SndQ.cmp eq_ok rfl (Snd.var rfl (by decide +kernel) (by decide +kernel)) (Snd.var rfl (by decide +kernel) (by decide +kernel))) (Snd.var rfl (by decide +kernel) (by decide +kernel)) (Snd.var rfl (by decide +kernel) (by decide +kernel)))) SndL.nil_)))))
  SndB.nil_) SndB.nil_)
  SndB.nil_)))
  (SndB.cons_ (SndS.assign (fun _ => rfl) (fun _ _ _ _ => rfl) (fun _ => rfl) (Snd.bin add_ok (Snd.var rfl (by decide +kernel) (by decide +kernel)) (Snd.var rfl (by decide +kernel) (by decide +kernel))) (SndT.var rfl (.inl (by decide +kernel))))
  SndB.nil_))))
  (SndB.cons_ (SndS.ret (Snd.lcIf (CompOk.of (sh := sh_law_ways) (sh' := sh_law_ways_2) (mp := [none, none, none, some 0]) (by decide +kernel)) (fun _ _ => rfl) (by intro h; cases h) (SndI.lst (Snd.var rfl (by decide +kernel) (by decide +kernel))) (SndT.tup (fun _ => rfl) (fun _ => rfl) (SndTL.cons_ (fun _ => rfl) (SndT.var rfl (.inl (by decide +kernel))) (SndTL.cons_ (fun _ => rfl) (SndT.var rfl (.inl (by decide +kernel))) SndTL.nil_))) (SndQ.cmp eq_ok rfl (Snd.bltn W W.b_len (by decide +kernel) (by decide +kernel) len_ok (fun _ => rfl) (Snd.var rfl (by decide +kernel) (by decide +kernel))) (Snd.bin sub_ok (Snd.var rfl (by decide +kernel) (by decide +kernel)) Snd.kInt)) (Snd.var rfl (by decide +kernel) (by decide +kernel))))
  SndB.nil_)))
noncomputable def sh_law_worth : Sh := ⟨[Str.ofString "lines", Str.ofString "chosen", Str.ofString "found", Str.ofString "at"], [], [Str.ofString "lines", Str.ofString "chosen", Str.ofString "found", Str.ofString "at"], [], []⟩
noncomputable def c_law_worth : SCmd := (bCons (sAssign (cK (.int 1)) (tVar 2))
  (bCons (sFor (iLst (cVar 1)) (tVar 3) (bCons (sAssign (c2 mulD (cVar 2) (c2 idxD (c2 idxD (cVar 0) (cVar 3)) (cK (.int 2)))) (tVar 2))
  bNil))
  (bCons (sRet (cVar 2))
  bNil)))
noncomputable def law_worthF : Fn := mkFn 2 4 (c_law_worth)
theorem w_law_worth {prog : Program} {w : World} {h₀ : Heap} {mg mb : Str → Option Value} (W : Wd h₀ mg mb) (R : Fn_ h₀ mg (rc 41)) : CallOk prog w h₀ mg 1 (Str.ofString "_law_worth") (law_worthF) :=
  callOk_of (x := (Str.ofString "_law_worth")) (params := (rc 41).params) (body := (rc 41).body) (scope := (rc 41).scope) (ps := [(Str.ofString "lines"), (Str.ofString "chosen")]) (sh := sh_law_worth) (n := 0) W R (bind2 fun pm cd doc v0 v1 => rfl) (FnOk.of (by decide +kernel))
  (SndB.cons_ (SndS.assign (fun _ => rfl) (fun _ _ _ _ => rfl) (fun _ => rfl) Snd.kInt (SndT.var rfl (.inl (by decide +kernel))))
  (SndB.cons_ (SndS.for_ (fun _ _ => rfl) (by intro h; cases h) (SndI.lst (Snd.var rfl (by decide +kernel) (by decide +kernel))) (SndT.var rfl (.inl (by decide +kernel))) (SndB.cons_ (SndS.assign (fun _ => rfl) (fun _ _ _ _ => rfl) (fun _ => rfl) (Snd.bin mul_ok (Snd.var rfl (by decide +kernel) (by decide +kernel)) (Snd.sub (fun _ _ => rfl) (Snd.sub (fun _ _ => rfl) (Snd.var rfl (by decide +kernel) (by decide +kernel)) (Snd.var rfl (by decide +kernel) (by decide +kernel))) Snd.kInt)) (SndT.var rfl (.inl (by decide +kernel))))
  SndB.nil_))
  (SndB.cons_ (SndS.ret (Snd.var rfl (by decide +kernel) (by decide +kernel)))
  SndB.nil_)))
noncomputable def sh_law_matrix : Sh := ⟨[Str.ofString "n", Str.ofString "lines", Str.ofString "found", Str.ofString "one", Str.ofString "other", Str.ofString "worth"], [Str.ofString "range"], [Str.ofString "lines", Str.ofString "found", Str.ofString "one", Str.ofString "other", Str.ofString "worth"], [Str.ofString "n"], [Str.ofString "n"]⟩
noncomputable def sh_law_matrix_1 : Sh := ⟨[Str.ofString ".0", Str.ofString "knot", Str.ofString "n"], [], [Str.ofString ".0", Str.ofString "knot"], [], [Str.ofString "n"]⟩
noncomputable def c_law_matrix : SCmd := (bCons (sAssign (cComp [none, none, some 0] (iRng1 (cVar 0)) (tVar 1) (fElt (c2 mulD (cLst (cCons (cK (.int 0)) cNil)) (cVar 2)))) (tVar 2))
  (bCons (sFor (iLst (cVar 1)) (tTup [(tVar 3), (tVar 4), (tVar 5)]) (bCons (sAug iaddD (c2 idxD (cVar 2) (cVar 3)) (cVar 3) (cVar 5))
  (bCons (sAug iaddD (c2 idxD (cVar 2) (cVar 4)) (cVar 4) (cVar 5))
  (bCons (sAug subD (c2 idxD (cVar 2) (cVar 3)) (cVar 4) (cVar 5))
  (bCons (sAug subD (c2 idxD (cVar 2) (cVar 4)) (cVar 3) (cVar 5))
  bNil)))))
  (bCons (sRet (cVar 2))
  bNil)))
noncomputable def law_matrixF : Fn := mkFn 2 6 (c_law_matrix)
theorem w_law_matrix {prog : Program} {w : World} {h₀ : Heap} {mg mb : Str → Option Value} (W : Wd h₀ mg mb) (R : Fn_ h₀ mg (rc 42)) : CallOk prog w h₀ mg 1 (Str.ofString "_law_matrix") (law_matrixF) :=
  callOk_of (x := (Str.ofString "_law_matrix")) (params := (rc 42).params) (body := (rc 42).body) (scope := (rc 42).scope) (ps := [(Str.ofString "n"), (Str.ofString "lines")]) (sh := sh_law_matrix) (n := 0) W R (bind2 fun pm cd doc v0 v1 => rfl) (FnOk.of (by decide +kernel))
  (SndB.cons_ (SndS.lc (CompOk.of (sh := sh_law_matrix) (sh' := sh_law_matrix_1) (mp := [none, none, some 0]) (by decide +kernel)) (fun _ _ => rfl) (by intro h; cases h) (SndI.rng1 W (by decide +kernel) (fun _ => rfl) (Snd.var rfl (by decide +kernel) (by decide +kernel))) (SndT.var rfl (.inl (by decide +kernel))) (Snd.bin mul_ok (Snd.lst (SndL.cons_ (fun _ => rfl) Snd.kInt SndL.nil_)) (Snd.var rfl (by decide +kernel) (by decide +kernel))) rfl (.inl (by decide +kernel)))
  (SndB.cons_ (SndS.for_ (fun _ _ => rfl) (by intro h; cases h) (SndI.lst (Snd.var rfl (by decide +kernel) (by decide +kernel))) (SndT.tup (fun _ => rfl) (fun _ => rfl) (SndTL.cons_ (fun _ => rfl) (SndT.var rfl (.inl (by decide +kernel))) (SndTL.cons_ (fun _ => rfl) (SndT.var rfl (.inl (by decide +kernel))) (SndTL.cons_ (fun _ => rfl) (SndT.var rfl (.inl (by decide +kernel))) SndTL.nil_)))) (SndB.cons_ (SndS.aug iadd_ok (fun _ _ _ => rfl) (Snd.sub (fun _ _ => rfl) (Snd.var rfl (by decide +kernel) (by decide +kernel)) (Snd.var rfl (by decide +kernel) (by decide +kernel))) (Snd.var rfl (by decide +kernel) (by decide +kernel)) (Snd.var rfl (by decide +kernel) (by decide +kernel)))
  (SndB.cons_ (SndS.aug iadd_ok (fun _ _ _ => rfl) (Snd.sub (fun _ _ => rfl) (Snd.var rfl (by decide +kernel) (by decide +kernel)) (Snd.var rfl (by decide +kernel) (by decide +kernel))) (Snd.var rfl (by decide +kernel) (by decide +kernel)) (Snd.var rfl (by decide +kernel) (by decide +kernel)))
  (SndB.cons_ (SndS.aug isub_ok (fun _ _ _ => rfl) (Snd.sub (fun _ _ => rfl) (Snd.var rfl (by decide +kernel) (by decide +kernel)) (Snd.var rfl (by decide +kernel) (by decide +kernel))) (Snd.var rfl (by decide +kernel) (by decide +kernel)) (Snd.var rfl (by decide +kernel) (by decide +kernel)))
  (SndB.cons_ (SndS.aug isub_ok (fun _ _ _ => rfl) (Snd.sub (fun _ _ => rfl) (Snd.var rfl (by decide +kernel) (by decide +kernel)) (Snd.var rfl (by decide +kernel) (by decide +kernel))) (Snd.var rfl (by decide +kernel) (by decide +kernel)) (Snd.var rfl (by decide +kernel) (by decide +kernel)))
  SndB.nil_)))))
  (SndB.cons_ (SndS.ret (Snd.var rfl (by decide +kernel) (by decide +kernel)))
  SndB.nil_)))
noncomputable def sh_law_without : Sh := ⟨[Str.ofString "a", Str.ofString "knots", Str.ofString "left"], [Str.ofString "range", Str.ofString "len"], [], [Str.ofString "a", Str.ofString "knots", Str.ofString "left"], [Str.ofString "a", Str.ofString "knots", Str.ofString "left"]⟩
noncomputable def sh_law_without_1 : Sh := ⟨[Str.ofString ".0", Str.ofString "at", Str.ofString "knots"], [], [Str.ofString ".0", Str.ofString "at"], [], [Str.ofString "knots"]⟩
noncomputable def sh_law_without_2 : Sh := ⟨[Str.ofString ".0", Str.ofString "one", Str.ofString "a", Str.ofString "left"], [], [Str.ofString ".0"], [Str.ofString "one"], [Str.ofString "one", Str.ofString "a", Str.ofString "left"]⟩
noncomputable def sh_law_without_3 : Sh := ⟨[Str.ofString ".0", Str.ofString "other", Str.ofString "a", Str.ofString "one"], [], [Str.ofString ".0", Str.ofString "other"], [], [Str.ofString "a", Str.ofString "one"]⟩
noncomputable def c_law_without : SCmd := (bCons (sAssign (cComp [none, none, some 1] (iRng1 (c1 lenD (cVar 0))) (tVar 1) (fIf (qVal (c2 notInD (cVar 1) (cVar 2))) (cVar 1))) (tVar 2))
  (bCons (sRet (cComp [none, none, some 0, some 2] (iLst (cVar 2)) (tVar 1) (fElt (cComp [none, none, some 2, some 1] (iLst (cVar 3)) (tVar 1) (fElt (c2 idxD (c2 idxD (cVar 2) (cVar 3)) (cVar 1)))))))
  bNil))
noncomputable def law_withoutF : Fn := mkFn 2 3 (c_law_without)
theorem w_law_without {prog : Program} {w : World} {h₀ : Heap} {mg mb : Str → Option Value} (W : Wd h₀ mg mb) (R : Fn_ h₀ mg (rc 43)) : CallOk prog w h₀ mg 1 (Str.ofString "_law_without") (law_withoutF) :=
  callOk_of (x := (Str.ofString "_law_without")) (params := (rc 43).params) (body := (rc 43).body) (scope := (rc 43).scope) (ps := [(Str.ofString "a"), (Str.ofString "knots")]) (sh := sh_law_without) (n := 0) W R (bind2 fun pm cd doc v0 v1 => rfl) (FnOk.of (by decide +kernel))
  (SndB.cons_ (SndS.lcIf (CompOk.of (sh := sh_law_without) (sh' := sh_law_without_1) (mp := [none, none, some 1]) (by decide +kernel)) (fun _ _ => rfl) (by intro h; cases h) (SndI.rng1 W (by decide +kernel) (fun _ => rfl) (Snd.bltn W W.b_len (by decide +kernel) (by decide +kernel) len_ok (fun _ => rfl) (Snd.var rfl (by decide +kernel) (by decide +kernel)))) (SndT.var rfl (.inl (by decide +kernel))) (SndQ.cmp notIn_ok rfl (Snd.var rfl (by decide +kernel) (by decide +kernel)) (Snd.var rfl (by decide +kernel) (by decide +kernel))) (Snd.var rfl (by decide +kernel) (by decide +kernel)) rfl (.inr (by decide +kernel)))
  (SndB.cons_ (SndS.ret (Snd.lc (CompOk.of (sh := sh_law_without) (sh' := sh_law_without_2) (mp := [none, none, some 0, some 2]) (by decide +kernel)) (fun _ _ => rfl) (by intro h; cases h) (SndI.lst (Snd.var rfl (by decide +kernel) (by decide +kernel))) (SndT.var rfl (.inr (by decide +kernel))) (Snd.lc (CompOk.of (sh := sh_law_without_2) (sh' := sh_law_without_3) (mp := [none, none, some 2, some 1]) (by decide +kernel)) (fun _ _ => rfl) (by intro h; cases h) (SndI.lst (Snd.var rfl (by decide +kernel) (by decide +kernel))) (SndT.var rfl (.inl (by decide +kernel))) (Snd.sub (fun _ _ => rfl) (Snd.sub (fun _ _ => rfl) (Snd.var rfl (by decide +kernel) (by decide +kernel)) (Snd.var rfl (by decide +kernel) (by decide +kernel))) (Snd.var rfl (by decide +kernel) (by decide +kernel))))))
  SndB.nil_))
noncomputable def sh_law_same : Sh := ⟨[Str.ofString "ratio", Str.ofString "top", Str.ofString "bottom"], [], [Str.ofString "ratio", Str.ofString "top", Str.ofString "bottom"], [], []⟩
noncomputable def c_law_same : SCmd := (bCons (sRet (c2 eqD (c2 mulD (c2 idxD (cVar 0) (cK (.int 0))) (cVar 2)) (c2 mulD (cVar 1) (c2 idxD (cVar 0) (cK (.int 1))))))
  bNil)
noncomputable def law_sameF : Fn := mkFn 3 3 (c_law_same)
theorem w_law_same {prog : Program} {w : World} {h₀ : Heap} {mg mb : Str → Option Value} (W : Wd h₀ mg mb) (R : Fn_ h₀ mg (rc 44)) : CallOk prog w h₀ mg 1 (Str.ofString "_law_same") (law_sameF) :=
  callOk_of (x := (Str.ofString "_law_same")) (params := (rc 44).params) (body := (rc 44).body) (scope := (rc 44).scope) (ps := [(Str.ofString "ratio"), (Str.ofString "top"), (Str.ofString "bottom")]) (sh := sh_law_same) (n := 0) W R (bind3 fun pm cd doc v0 v1 v2 => rfl) (FnOk.of (by decide +kernel))
  (SndB.cons_ (SndS.ret (Snd.cmp eq_ok rfl (Snd.bin mul_ok (Snd.sub (fun _ _ => rfl) (Snd.var rfl (by decide +kernel) (by decide +kernel)) Snd.kInt) (Snd.var rfl (by decide +kernel) (by decide +kernel))) (Snd.bin mul_ok (Snd.var rfl (by decide +kernel) (by decide +kernel)) (Snd.sub (fun _ _ => rfl) (Snd.var rfl (by decide +kernel) (by decide +kernel)) Snd.kInt))))
  SndB.nil_)
noncomputable def sh_law_steps : Sh := ⟨[Str.ofString "a", Str.ofString "start", Str.ofString "end", Str.ofString "left", Str.ofString "told", Str.ofString "free"], [Str.ofString "_law_without", Str.ofString "solve_system", Str.ofString "from_whole", Str.ofString "range", Str.ofString "len"], [Str.ofString "start", Str.ofString "left", Str.ofString "told", Str.ofString "free"], [Str.ofString "a", Str.ofString "end"], [Str.ofString "a", Str.ofString "end"]⟩
noncomputable def sh_law_steps_1 : Sh := ⟨[Str.ofString ".0", Str.ofString "at", Str.ofString "a", Str.ofString "end"], [], [Str.ofString ".0", Str.ofString "at"], [], [Str.ofString "a", Str.ofString "end"]⟩
noncomputable def c_law_steps : SCmd := (bCons (sAssign (cCall law_withoutF (cCons (cVar 0) (cCons (cLst (cCons (cVar 2) cNil)) cNil))) (tVar 3))
  (bCons (sAssign (cCall solve_systemF (cCons (cCall from_wholeF (cCons (cVar 3) cNil)) (cCons (cComp [none, none, some 0, some 2] (iRng1 (c1 lenD (cVar 0))) (tVar 1) (fIf (qVal (c2 neD (cVar 1) (cVar 3))) (cTup (cCons (c2 idxD (c2 idxD (cVar 2) (cVar 1)) (cVar 1)) (cCons (cK (.int 1)) cNil))))) cNil))) (tTup [(tVar 4), (tVar 5)]))
  (bCons (sRet (cIf (qOr (qVal (c2 isNoneD (cVar 4) (cK .none))) (qVal (c2 neD (cVar 5) (cLst cNil)))) (cK .none) (c2 idxD (cVar 4) (cIf (qVal (c2 ltD (cVar 1) (cVar 2))) (cVar 1) (c2 subD (cVar 1) (cK (.int 1)))))))
  bNil)))
noncomputable def law_stepsF : Fn := mkFn 3 6 (c_law_steps)
theorem w_law_steps {prog : Program} {w : World} {h₀ : Heap} {mg mb : Str → Option Value} (W : Wd h₀ mg mb) (R : Fn_ h₀ mg (rc 45)) (h_from_whole : CallOk prog w h₀ mg 7 (Str.ofString "from_whole") from_wholeF) (h_solve_system : CallOk prog w h₀ mg 7 (Str.ofString "solve_system") solve_systemF) (h_law_without : CallOk prog w h₀ mg 7 (Str.ofString "_law_without") law_withoutF) : CallOk prog w h₀ mg 8 (Str.ofString "_law_steps") (law_stepsF) :=
  callOk_of (x := (Str.ofString "_law_steps")) (params := (rc 45).params) (body := (rc 45).body) (scope := (rc 45).scope) (ps := [(Str.ofString "a"), (Str.ofString "start"), (Str.ofString "end")]) (sh := sh_law_steps) (n := 7) W R (bind3 fun pm cd doc v0 v1 v2 => rfl) (FnOk.of (by decide +kernel))
  (SndB.cons_ (SndS.assign (fun _ => rfl) (fun _ _ _ _ => rfl) (fun _ => rfl) (Snd.ucall W h_law_without (by decide +kernel) (by decide +kernel) (fun _ => rfl) (SndL.cons_ (fun _ => rfl) (Snd.var rfl (by decide +kernel) (by decide +kernel)) (SndL.cons_ (fun _ => rfl) (Snd.lst (SndL.cons_ (fun _ => rfl) (Snd.var rfl (by decide +kernel) (by decide +kernel)) SndL.nil_)) SndL.nil_))) (SndT.var rfl (.inl (by decide +kernel))))
  (SndB.cons_ (SndS.assign (fun _ => rfl) (fun _ _ _ _ => rfl) (fun _ => rfl) (Snd.ucall W h_solve_system (by decide +kernel) (by decide +kernel) (fun _ => rfl) (SndL.cons_ (fun _ => rfl) (Snd.ucall W h_from_whole (by decide +kernel) (by decide +kernel) (fun _ => rfl) (SndL.cons_ (fun _ => rfl) (Snd.var rfl (by decide +kernel) (by decide +kernel)) SndL.nil_)) (SndL.cons_ (fun _ => rfl) (Snd.lcIf (CompOk.of (sh := sh_law_steps) (sh' := sh_law_steps_1) (mp := [none, none, some 0, some 2]) (by decide +kernel)) (fun _ _ => rfl) (by intro h; cases h) (SndI.rng1 W (by decide +kernel) (fun _ => rfl) (Snd.bltn W W.b_len (by decide +kernel) (by decide +kernel) len_ok (fun _ => rfl) (Snd.var rfl (by decide +kernel) (by decide +kernel)))) (SndT.var rfl (.inl (by decide +kernel))) (SndQ.cmp ne_ok rfl (Snd.var rfl (by decide +kernel) (by decide +kernel)) (Snd.var rfl (by decide +kernel) (by decide +kernel))) (Snd.tup (SndL.cons_ (fun _ => rfl) (Snd.sub (fun _ _ => rfl) (Snd.sub (fun _ _ => rfl) (Snd.var rfl (by decide +kernel) (by decide +kernel)) (Snd.var rfl (by decide +kernel) (by decide +kernel))) (Snd.var rfl (by decide +kernel) (by decide +kernel))) (SndL.cons_ (fun _ => rfl) Snd.kInt SndL.nil_)))) SndL.nil_))) (SndT.tup (fun _ => rfl) (fun _ => rfl) (SndTL.cons_ (fun _ => rfl) (SndT.var rfl (.inl (by decide +kernel))) (SndTL.cons_ (fun _ => rfl) (SndT.var rfl (.inl (by decide +kernel))) SndTL.nil_))))
  (SndB.cons_ (SndS.ret (Snd.ifexp (SndQ.or_ (SndQ.cmp isNone_ok rfl (Snd.var rfl (by decide +kernel) (by decide +kernel)) Snd.kNone) (SndQ.cmp ne_ok rfl (Snd.var rfl (by decide +kernel) (by decide +kernel)) (Snd.lst SndL.nil_))) Snd.kNone (Snd.sub (fun _ _ => rfl) (Snd.var rfl (by decide +kernel) (by decide +kernel)) (Snd.ifexp (SndQ.cmp lt_ok rfl (Snd.var rfl (by decide +kernel) (by decide +kernel)) (Snd.var rfl (by decide +kernel) (by decide +kernel))) (Snd.var rfl (by decide +kernel) (by decide +kernel)) (Snd.bin sub_ok (Snd.var rfl (by decide +kernel) (by decide +kernel)) Snd.kInt)))))
  SndB.nil_)))
end Mine
-- G5
namespace Mine
open PySem PySem.W PyProof.Rows
set_option maxHeartbeats 4000000
noncomputable def sh_law : Sh := ⟨[Str.ofString "script", Str.ofString "pool", Str.ofString "n", Str.ofString "one", Str.ofString "other", Str.ofString "pairs", Str.ofString "lines", Str.ofString "spot", Str.ofString "more", Str.ofString "a", Str.ofString "ways", Str.ofString "whole", Str.ofString "apart", Str.ofString "told", Str.ofString "at", Str.ofString "top", Str.ofString "bottom", Str.ofString "first", Str.ofString "second", Str.ofString "between", Str.ofString "start", Str.ofString "end", Str.ofString "wider", Str.ofString "there", Str.ofString "back", Str.ofString "steps", Str.ofString "sign"], [Str.ofString "_law_draw", Str.ofString "range", Str.ofString "len", Str.ofString "_law_matrix", Str.ofString "_law_ways", Str.ofString "sum", Str.ofString "inverse", Str.ofString "from_whole", Str.ofString "_law_without", Str.ofString "enumerate", Str.ofString "_law_same", Str.ofString "determinant", Str.ofString "_law_steps", Str.ofString "charpoly"], [Str.ofString "script", Str.ofString "one", Str.ofString "other", Str.ofString "pairs", Str.ofString "spot", Str.ofString "more", Str.ofString "ways", Str.ofString "apart", Str.ofString "told", Str.ofString "top", Str.ofString "bottom", Str.ofString "first", Str.ofString "second", Str.ofString "between", Str.ofString "start", Str.ofString "end", Str.ofString "wider", Str.ofString "there", Str.ofString "back", Str.ofString "steps", Str.ofString "sign"], [Str.ofString "pool", Str.ofString "n", Str.ofString "lines", Str.ofString "a", Str.ofString "whole", Str.ofString "at"], [Str.ofString "pool", Str.ofString "n", Str.ofString "lines", Str.ofString "a", Str.ofString "whole", Str.ofString "at"]⟩
noncomputable def sh_law_1 : Sh := ⟨[Str.ofString ".0", Str.ofString "cell"], [Str.ofString "int"], [Str.ofString ".0", Str.ofString "cell"], [], []⟩
noncomputable def sh_law_2 : Sh := ⟨[Str.ofString ".0", Str.ofString "one", Str.ofString "other", Str.ofString "n"], [Str.ofString "range"], [Str.ofString ".0", Str.ofString "one", Str.ofString "other"], [], [Str.ofString "n"]⟩
noncomputable def sh_law_3 : Sh := ⟨[Str.ofString ".0", Str.ofString "one", Str.ofString "other", Str.ofString "pool"], [Str.ofString "_law_draw"], [Str.ofString ".0", Str.ofString "one", Str.ofString "other"], [], [Str.ofString "pool"]⟩
noncomputable def sh_law_4 : Sh := ⟨[Str.ofString ".0", Str.ofString "chosen", Str.ofString "lines"], [Str.ofString "_law_worth"], [Str.ofString ".0", Str.ofString "chosen"], [], [Str.ofString "lines"]⟩
noncomputable def sh_law_5 : Sh := ⟨[Str.ofString ".0", Str.ofString "pair", Str.ofString "a"], [Str.ofString "determinant", Str.ofString "_law_without"], [Str.ofString ".0", Str.ofString "pair"], [], [Str.ofString "a"]⟩
noncomputable def sh_law_6 : Sh := ⟨[Str.ofString ".0", Str.ofString "knot", Str.ofString "a", Str.ofString "whole"], [Str.ofString "determinant", Str.ofString "_law_without"], [Str.ofString ".0", Str.ofString "knot"], [], [Str.ofString "a", Str.ofString "whole"]⟩
noncomputable def sh_law_7 : Sh := ⟨[Str.ofString ".0", Str.ofString "chosen", Str.ofString "at", Str.ofString "lines"], [Str.ofString "_law_worth"], [Str.ofString ".0", Str.ofString "chosen"], [], [Str.ofString "at", Str.ofString "lines"]⟩
noncomputable def sh_law_8 : Sh := ⟨[Str.ofString ".0", Str.ofString "at", Str.ofString "number", Str.ofString "lines"], [], [Str.ofString ".0", Str.ofString "at", Str.ofString "number"], [], [Str.ofString "lines"]⟩
noncomputable def sh_law_9 : Sh := ⟨[Str.ofString ".0", Str.ofString "line"], [], [Str.ofString ".0", Str.ofString "line"], [], []⟩
noncomputable def c_law : SCmd := (bCons (sAssign (cRef (cCons (cComp [none, none] (iLst (c2 uptoD (cVar 0) (cK (.int 10)))) (tVar 1) (fElt (c1 intD (cVar 1)))) (cCons (cK (.int 0)) cNil))) (tVar 1))
  (bCons (sAssign (c2 addD (cK (.int 3)) (cCall law_drawF (cCons (cVar 1) (cCons (cK (.int 2)) cNil)))) (tVar 2))
  (bCons (sAssign (cComp [none, none, none, some 2] (iRng1 (cVar 2)) (tVar 1) (fIn (iRng2 (c2 addD (cVar 1) (cK (.int 1))) (cVar 3)) (tVar 2) (fElt (cTup (cCons (cVar 1) (cCons (cVar 2) cNil)))))) (tVar 5))
  (bCons (sAssign (cComp [none, none, none, some 1] (iLst (cVar 5)) (tTup [(tVar 1), (tVar 2)]) (fElt (cTup (cCons (cVar 1) (cCons (cVar 2) (cCons (c2 addD (cCall law_drawF (cCons (cVar 3) (cCons (cK (.int 3)) cNil))) (cIf (qVal (c2 eqD (cVar 2) (c2 addD (cVar 1) (cK (.int 1))))) (cK (.int 1)) (cK (.int 0)))) cNil)))))) (tVar 6))
  (bCons (sAssign (cTup (cCons (cCall law_drawF (cCons (cVar 1) (cCons (c1 lenD (cVar 5)) cNil))) (cCons (c2 addD (cK (.int 1)) (cCall law_drawF (cCons (cVar 1) (cCons (cK (.int 3)) cNil)))) cNil))) (tTup [(tVar 7), (tVar 8)]))
  (bCons (sAssign (cTup (cCons (cCall law_matrixF (cCons (cVar 2) (cCons (cVar 6) cNil))) (cCons (cCall law_waysF (cCons (cVar 2) (cCons (cVar 6) cNil))) cNil))) (tTup [(tVar 9), (tVar 10)]))
  (bCons (sAssign (c1 sumD (cComp [none, none, some 6] (iLst (cVar 10)) (tVar 1) (fElt (cCall law_worthF (cCons (cVar 2) (cCons (cVar 1) cNil)))))) (tVar 11))
  (bCons (sAssign (cComp [none, none, some 9] (iLst (cVar 5)) (tVar 1) (fElt (cCall determinantF (cCons (cCall law_withoutF (cCons (cVar 2) (cCons (cVar 1) cNil))) cNil)))) (tVar 12))
  (bCons (sIf (qVal (c2 neD (cComp [none, none, some 9, some 11] (iRng1 (cVar 2)) (tVar 1) (fIf (qVal (c2 neD (cCall determinantF (cCons (cCall law_withoutF (cCons (cVar 2) (cCons (cLst (cCons (cVar 1) cNil)) cNil))) cNil)) (cVar 3))) (cVar 1))) (cLst cNil))) (bCons (sRet (cK (.bool false)))
  bNil) bNil)
  (bCons (sAssign (cCall inverseF (cCons (cCall from_wholeF (cCons (cCall law_withoutF (cCons (cVar 9) (cCons (cLst (cCons (cK (.int 0)) cNil)) cNil))) cNil)) cNil)) (tVar 13))
  (bCons (sIf (qVal (c2 isNoneD (cVar 13) (cK .none))) (bCons (sRet (cK (.bool false)))
  bNil) bNil)
  (bCons (sFor (iEnm (cVar 5)) (tTup [(tVar 14), (tTup [(tVar 3), (tVar 4)])]) (bCons (sIf (qVal (c2 neD (c2 mulD (c2 idxD (c2 idxD (cVar 6) (cVar 14)) (cK (.int 2))) (c2 idxD (cVar 12) (cVar 14))) (c1 sumD (cComp [none, none, some 14, some 6] (iLst (cVar 10)) (tVar 1) (fIf (qVal (c2 inD (cVar 2) (cVar 1))) (cCall law_worthF (cCons (cVar 3) (cCons (cVar 1) cNil)))))))) (bCons (sRet (cK (.bool false)))
  bNil) bNil)
  (bCons (sIf (qVal (c2 eqD (cVar 3) (cK (.int 0)))) (bCons (sAssign (c2 idxD (c2 idxD (cVar 13) (c2 subD (cVar 4) (cK (.int 1)))) (c2 subD (cVar 4) (cK (.int 1)))) (tTup [(tVar 15), (tVar 16)]))
  bNil) (bCons (sAssign (cTup (cCons (c2 idxD (c2 idxD (cVar 13) (c2 subD (cVar 3) (cK (.int 1)))) (c2 subD (cVar 3) (cK (.int 1)))) (cCons (c2 idxD (c2 idxD (cVar 13) (c2 subD (cVar 4) (cK (.int 1)))) (c2 subD (cVar 4) (cK (.int 1)))) (cCons (c2 idxD (c2 idxD (cVar 13) (c2 subD (cVar 3) (cK (.int 1)))) (c2 subD (cVar 4) (cK (.int 1)))) cNil)))) (tTup [(tVar 17), (tVar 18), (tVar 19)]))
  (bCons (sAssign (c2 mulD (c2 mulD (c2 idxD (cVar 17) (cK (.int 1))) (c2 idxD (cVar 18) (cK (.int 1)))) (c2 idxD (cVar 19) (cK (.int 1)))) (tVar 16))
  (bCons (sAssign (c2 subD (c2 mulD (c2 addD (c2 mulD (c2 idxD (cVar 17) (cK (.int 0))) (c2 idxD (cVar 18) (cK (.int 1)))) (c2 mulD (c2 idxD (cVar 18) (cK (.int 0))) (c2 idxD (cVar 17) (cK (.int 1))))) (c2 idxD (cVar 19) (cK (.int 1)))) (c2 mulD (c2 mulD (c2 mulD (cK (.int 2)) (c2 idxD (cVar 19) (cK (.int 0)))) (c2 idxD (cVar 17) (cK (.int 1)))) (c2 idxD (cVar 18) (cK (.int 1))))) (tVar 15))
  bNil))))
  (bCons (sIf (qNot (qVal (cCall law_sameF (cCons (cTup (cCons (cVar 15) (cCons (cVar 16) cNil))) (cCons (c2 idxD (cVar 12) (cVar 14)) (cCons (cVar 11) cNil)))))) (bCons (sRet (cK (.bool false)))
  bNil) bNil)
  bNil))))
  (bCons (sIf (qVal (c2 neD (c1 sumD (cComp [none, none, none, some 6] (iEnm (cVar 12)) (tTup [(tVar 1), (tVar 2)]) (fElt (c2 mulD (c2 idxD (c2 idxD (cVar 3) (cVar 1)) (cK (.int 2))) (cVar 2))))) (c2 mulD (c2 subD (cVar 2) (cK (.int 1))) (cVar 11)))) (bCons (sRet (cK (.bool false)))
  bNil) bNil)
  (bCons (sAssign (c2 idxD (cVar 5) (cVar 7)) (tTup [(tVar 20), (tVar 21)]))
  (bCons (sAssign (cCall law_matrixF (cCons (cVar 2) (cCons (c2 addD (cVar 6) (cLst (cCons (cTup (cCons (cVar 20) (cCons (cVar 21) (cCons (cVar 8) cNil)))) cNil))) cNil))) (tVar 22))
  (bCons (sIf (qVal (c2 neD (cCall determinantF (cCons (cCall law_withoutF (cCons (cVar 22) (cCons (cLst (cCons (cK (.int 0)) cNil)) cNil))) cNil)) (c2 addD (cVar 11) (c2 mulD (cVar 8) (c2 idxD (cVar 12) (cVar 7)))))) (bCons (sRet (cK (.bool false)))
  bNil) bNil)
  (bCons (sAssign (cTup (cCons (cCall law_stepsF (cCons (cVar 9) (cCons (cVar 20) (cCons (cVar 21) cNil)))) (cCons (cCall law_stepsF (cCons (cVar 9) (cCons (cVar 21) (cCons (cVar 20) cNil)))) cNil))) (tTup [(tVar 23), (tVar 24)]))
  (bCons (sIf (qOr (qVal (c2 isNoneD (cVar 23) (cK .none))) (qVal (c2 isNoneD (cVar 24) (cK .none)))) (bCons (sRet (cK (.bool false)))
  bNil) bNil)
  (bCons (sAssign (cTup (cCons (c2 addD (c2 mulD (c2 idxD (cVar 23) (cK (.int 0))) (c2 idxD (cVar 24) (cK (.int 1)))) (c2 mulD (c2 idxD (cVar 24) (cK (.int 0))) (c2 idxD (cVar 23) (cK (.int 1))))) (cCons (c2 mulD (c2 idxD (cVar 23) (cK (.int 1))) (c2 idxD (cVar 24) (cK (.int 1)))) cNil))) (tVar 25))
  (bCons (sIf (qNot (qVal (cCall law_sameF (cCons (cVar 25) (cCons (c2 mulD (c2 mulD (cK (.int 2)) (c1 sumD (cComp [none, none] (iLst (cVar 6)) (tVar 1) (fElt (c2 idxD (cVar 1) (cK (.int 2))))))) (c2 idxD (cVar 12) (cVar 7))) (cCons (cVar 11) cNil)))))) (bCons (sRet (cK (.bool false)))
  bNil) bNil)
  (bCons (sAssign (c2 subD (cK (.int 1)) (c2 mulD (cK (.int 2)) (c2 modD (cVar 2) (cK (.int 2))))) (tVar 26))
  (bCons (sRet (c2 eqD (c2 uptoD (cCall charpolyF (cCons (cCall from_wholeF (cCons (cVar 9) cNil)) cNil)) (cK (.int 3))) (cLst (cCons (cTup (cCons (cK (.int 0)) (cCons (cK (.int 1)) cNil))) (cCons (cTup (cCons (c2 subD (cK (.int 0)) (c2 mulD (c2 mulD (cVar 26) (cVar 2)) (cVar 11))) (cCons (cK (.int 1)) cNil))) (cCons (cTup (cCons (c2 mulD (cVar 26) (c1 sumD (cVar 12))) (cCons (cK (.int 1)) cNil))) cNil))))))
  bNil))))))))))))))))))))))
noncomputable def lawF : Fn := mkFn 1 27 (c_law)
theorem w_law {prog : Program} {w : World} {h₀ : Heap} {mg mb : Str → Option Value} (W : Wd h₀ mg mb) (R : Fn_ h₀ mg (rc 46)) (h_from_whole : CallOk prog w h₀ mg 8 (Str.ofString "from_whole") from_wholeF) (h_inverse : CallOk prog w h₀ mg 8 (Str.ofString "inverse") inverseF) (h_charpoly : CallOk prog w h₀ mg 8 (Str.ofString "charpoly") charpolyF) (h_determinant : CallOk prog w h₀ mg 8 (Str.ofString "determinant") determinantF) (h_law_draw : CallOk prog w h₀ mg 8 (Str.ofString "_law_draw") law_drawF) (h_law_ways : CallOk prog w h₀ mg 8 (Str.ofString "_law_ways") law_waysF) (h_law_worth : CallOk prog w h₀ mg 8 (Str.ofString "_law_worth") law_worthF) (h_law_matrix : CallOk prog w h₀ mg 8 (Str.ofString "_law_matrix") law_matrixF) (h_law_without : CallOk prog w h₀ mg 8 (Str.ofString "_law_without") law_withoutF) (h_law_same : CallOk prog w h₀ mg 8 (Str.ofString "_law_same") law_sameF) (h_law_steps : CallOk prog w h₀ mg 8 (Str.ofString "_law_steps") law_stepsF) : CallOk prog w h₀ mg 9 (Str.ofString "law") (lawF) :=
  callOk_of (x := (Str.ofString "law")) (params := (rc 46).params) (body := (rc 46).body) (scope := (rc 46).scope) (ps := [(Str.ofString "script")]) (sh := sh_law) (n := 8) W R (bind1 fun pm cd doc v0 => rfl) (FnOk.of (by decide +kernel))
  (SndB.cons_ (SndS.assign (fun _ => rfl) (fun _ _ _ _ => rfl) (fun _ => rfl) (Snd.ref (SndL.cons_ (fun _ => rfl) (Snd.lc (CompOk.of (sh := sh_law) (sh' := sh_law_1) (mp := [none, none]) (by decide +kernel)) (fun _ _ => rfl) (by intro h; cases h) (SndI.lst (Snd.upto (Snd.var rfl (by decide +kernel) (by decide +kernel)) Snd.kInt)) (SndT.var rfl (.inl (by decide +kernel))) (Snd.typ W W.b_int (by decide +kernel) (by decide +kernel) intc_ok (fun _ => rfl) (Snd.var rfl (by decide +kernel) (by decide +kernel)))) (SndL.cons_ (fun _ => rfl) Snd.kInt SndL.nil_))) (SndT.var rfl (.inr (by decide +kernel))))
  (SndB.cons_ (SndS.assign (fun _ => rfl) (fun _ _ _ _ => rfl) (fun _ => rfl) (Snd.bin add_ok Snd.kInt (Snd.ucall W h_law_draw (by decide +kernel) (by decide +kernel) (fun _ => rfl) (SndL.cons_ (fun _ => rfl) (Snd.var rfl (by decide +kernel) (by decide +kernel)) (SndL.cons_ (fun _ => rfl) Snd.kInt SndL.nil_)))) (SndT.var rfl (.inr (by decide +kernel))))
  (SndB.cons_ (SndS.lc2 (CompOk.of (sh := sh_law) (sh' := sh_law_2) (mp := [none, none, none, some 2]) (by decide +kernel)) (fun _ _ => rfl) (fun _ _ => rfl) (by intro h; cases h) (by intro h; cases h) (SndI.rng1 W (by decide +kernel) (fun _ => rfl) (Snd.var rfl (by decide +kernel) (by decide +kernel))) (SndT.var rfl (.inl (by decide +kernel))) (SndI.rng2 W (by decide +kernel) (fun _ => rfl) (Snd.bin add_ok (Snd.var rfl (by decide +kernel) (by decide +kernel)) Snd.kInt) (Snd.var rfl (by decide +kernel) (by decide +kernel))) (SndT.var rfl (.inl (by decide +kernel))) (Snd.tup (SndL.cons_ (fun _ => rfl) (Snd.var rfl (by decide +kernel) (by decide +kernel)) (SndL.cons_ (fun _ => rfl) (Snd.var rfl (by decide +kernel) (by decide +kernel)) SndL.nil_))) rfl (.inl (by decide +kernel)))
  (SndB.cons_ (SndS.lc (CompOk.of (sh := sh_law) (sh' := sh_law_3) (mp := [none, none, none, some 1]) (by decide +kernel)) (fun _ _ => rfl) (by intro h; cases h) (SndI.lst (Snd.var rfl (by decide +kernel) (by decide +kernel))) (SndT.tup (fun _ => rfl) (fun _ => rfl) (SndTL.cons_ (fun _ => rfl) (SndT.var rfl (.inl (by decide +kernel))) (SndTL.cons_ (fun _ => rfl) (SndT.var rfl (.inl (by decide +kernel))) SndTL.nil_))) (Snd.tup (SndL.cons_ (fun _ => rfl) (Snd.var rfl (by decide +kernel) (by decide +kernel)) (SndL.cons_ (fun _ => rfl) (Snd.var rfl (by decide +kernel) (by decide +kernel)) (SndL.cons_ (fun _ => rfl) (Snd.bin add_ok (Snd.ucall W h_law_draw (by decide +kernel) (by decide +kernel) (fun _ => rfl) (SndL.cons_ (fun _ => rfl) (Snd.var rfl (by decide +kernel) (by decide +kernel)) (SndL.cons_ (fun _ => rfl) Snd.kInt SndL.nil_))) (Snd.ifexp (SndQ.cmp eq_ok rfl (Snd.var rfl (by decide +kernel) (by decide +kernel)) (Snd.bin add_ok (Snd.var rfl (by decide +kernel) (by decide +kernel)) Snd.kInt)) Snd.kInt Snd.kInt)) SndL.nil_)))) rfl (.inr (by decide +kernel)))
  (SndB.cons_ (SndS.swap (xs := [(Str.ofString "spot"), (Str.ofString "more")]) (fun _ => rfl) (by intro env hk hl hc; have h0 := hl (Str.ofString "spot") (by decide +kernel); have h1 := hl (Str.ofString "more") (by decide +kernel); simp only [swappedStores, Env.blockKind, hk, h0, h1, List.filterMap_cons, List.filterMap_nil]; rfl) rfl (Snd.tup (SndL.cons_ (fun _ => rfl) (Snd.ucall W h_law_draw (by decide +kernel) (by decide +kernel) (fun _ => rfl) (SndL.cons_ (fun _ => rfl) (Snd.var rfl (by decide +kernel) (by decide +kernel)) (SndL.cons_ (fun _ => rfl) (Snd.bltn W W.b_len (by decide +kernel) (by decide +kernel) len_ok (fun _ => rfl) (Snd.var rfl (by decide +kernel) (by decide +kernel))) SndL.nil_))) (SndL.cons_ (fun _ => rfl) (Snd.bin add_ok Snd.kInt (Snd.ucall W h_law_draw (by decide +kernel) (by decide +kernel) (fun _ => rfl) (SndL.cons_ (fun _ => rfl) (Snd.var rfl (by decide +kernel) (by decide +kernel)) (SndL.cons_ (fun _ => rfl) Snd.kInt SndL.nil_)))) SndL.nil_))) (swap2 rfl rfl (by decide +kernel) (by decide +kernel) (by decide +kernel)))
  (SndB.cons_ (SndS.assign (fun _ => rfl) (by intro env hk hl hc; have h0 := hc (Str.ofString "a") (by decide +kernel); have h1 := hl (Str.ofString "ways") (by decide +kernel); simp only [swappedStores, Env.blockKind, hk, h0, h1, List.filterMap_cons, List.filterMap_nil]; rfl) (fun _ => rfl) (Snd.tup (SndL.cons_ (fun _ => rfl) (Snd.ucall W h_law_matrix (by decide +kernel) (by decide +kernel) (fun _ => rfl) (SndL.cons_ (fun _ => rfl) (Snd.var rfl (by decide +kernel) (by decide +kernel)) (SndL.cons_ (fun _ => rfl) (Snd.var rfl (by decide +kernel) (by decide +kernel)) SndL.nil_))) (SndL.cons_ (fun _ => rfl) (Snd.ucall W h_law_ways (by decide +kernel) (by decide +kernel) (fun _ => rfl) (SndL.cons_ (fun _ => rfl) (Snd.var rfl (by decide +kernel) (by decide +kernel)) (SndL.cons_ (fun _ => rfl) (Snd.var rfl (by decide +kernel) (by decide +kernel)) SndL.nil_))) SndL.nil_))) (SndT.tup (fun _ => rfl) (fun _ => rfl) (SndTL.cons_ (fun _ => rfl) (SndT.var rfl (.inr (by decide +kernel))) (SndTL.cons_ (fun _ => rfl) (SndT.var rfl (.inl (by decide +kernel))) SndTL.nil_))))
  (SndB.cons_ (SndS.assign (fun _ => rfl) (fun _ _ _ _ => rfl) (fun _ => rfl) (Snd.bltn W W.b_sum (by decide +kernel) (by decide +kernel) sum_okk (fun _ => rfl) (Snd.lc (CompOk.of (sh := sh_law) (sh' := sh_law_4) (mp := [none, none, some 6]) (by decide +kernel)) (fun _ _ => rfl) (by intro h; cases h) (SndI.lst (Snd.var rfl (by decide +kernel) (by decide +kernel))) (SndT.var rfl (.inl (by decide +kernel))) (Snd.ucall W h_law_worth (by decide +kernel) (by decide +kernel) (fun _ => rfl) (SndL.cons_ (fun _ => rfl) (Snd.var rfl (by decide +kernel) (by decide +kernel)) (SndL.cons_ (fun _ => rfl) (Snd.var rfl (by decide +kernel) (by decide +kernel)) SndL.nil_))))) (SndT.var rfl (.inr (by decide +kernel))))
  (SndB.cons_ (SndS.lc (CompOk.of (sh := sh_law) (sh' := sh_law_5) (mp := [none, none, some 9]) (by decide +kernel)) (fun _ _ => rfl) (by intro h; cases h) (SndI.lst (Snd.var rfl (by decide +kernel) (by decide +kernel))) (SndT.var rfl (.inl (by decide +kernel))) (Snd.ucall W h_determinant (by decide +kernel) (by decide +kernel) (fun _ => rfl) (SndL.cons_ (fun _ => rfl) (Snd.ucall W h_law_without (by decide +kernel) (by decide +kernel) (fun _ => rfl) (SndL.cons_ (fun _ => rfl) (Snd.var rfl (by decide +kernel) (by decide +kernel)) (SndL.cons_ (fun _ => rfl) (Snd.var rfl (by decide +kernel) (by decide +kernel)) SndL.nil_))) SndL.nil_)) rfl (.inl (by decide +kernel)))
  (SndB.cons_ (SndS.if_ (SndQ.cmp ne_ok rfl (Snd.lcIf (CompOk.of (sh := sh_law) (sh' := sh_law_6) (mp := [none, none, some 9, some 11]) (by decide +kernel)) (fun _ _ => rfl) (by intro h; cases h) (SndI.rng1 W (by decide +kernel) (fun _ => rfl) (Snd.var rfl (by decide +kernel) (by decide +kernel))) (SndT.var rfl (.inl (by decide +kernel))) (SndQ.cmp ne_ok rfl (Snd.ucall W h_determinant (by decide +kernel) (by decide +kernel) (fun _ => rfl) (SndL.cons_ (fun _ => rfl) (Snd.ucall W h_law_without (by decide +kernel) (by decide +kernel) (fun _ => rfl) (SndL.cons_ (fun _ => rfl) (Snd.var rfl (by decide +kernel) (by decide +kernel)) (SndL.cons_ (fun _ => rfl) (Snd.lst (SndL.cons_ (fun _ => rfl) (Snd.var rfl (by decide +kernel) (by decide +kernel)) SndL.nil_)) SndL.nil_))) SndL.nil_)) (Snd.var rfl (by decide +kernel) (by decide +kernel))) (Snd.var rfl (by decide +kernel) (by decide +kernel))) (Snd.lst SndL.nil_)) (SndB.cons_ (SndS.ret Snd.kBool)
  SndB.nil_) SndB.nil_)
  (SndB.cons_ (SndS.assign (fun _ => rfl) (fun _ _ _ _ => rfl) (fun _ => rfl) (Snd.ucall W h_inverse (by decide +kernel) (by decide +kernel) (fun _ => rfl) (SndL.cons_ (fun _ => rfl) (Snd.ucall W h_from_whole (by decide +kernel) (by decide +kernel) (fun _ => rfl) (SndL.cons_ (fun _ => rfl) (Snd.ucall W h_law_without (by decide +kernel) (by decide +kernel) (fun _ => rfl) (SndL.cons_ (fun _ => rfl) (Snd.var rfl (by decide +kernel) (by decide +kernel)) (SndL.cons_ (fun _ => rfl) (Snd.lst (SndL.cons_ (fun _ => rfl) Snd.kInt SndL.nil_)) SndL.nil_))) SndL.nil_)) SndL.nil_)) (SndT.var rfl (.inl (by decide +kernel))))
  (SndB.cons_ (SndS.if_ (SndQ.cmp isNone_ok rfl (Snd.var rfl (by decide +kernel) (by decide +kernel)) Snd.kNone) (SndB.cons_ (SndS.ret Snd.kBool)
  SndB.nil_) SndB.nil_)
  (SndB.cons_ (SndS.for_ (fun _ _ => rfl) (fun _ => ⟨_, _, _, rfl⟩) (SndI.enm W (by decide +kernel) (fun _ => rfl) (Snd.var rfl (by decide +kernel) (by decide +kernel))) (SndT.tup (fun _ => rfl) (fun _ => rfl) (SndTL.cons_ (fun _ => rfl) (SndT.var rfl (.inr (by decide +kernel))) (SndTL.cons_ (fun _ => rfl) (SndT.tup (fun _ => rfl) (fun _ => rfl) (SndTL.cons_ (fun _ => rfl) (SndT.var rfl (.inl (by decide +kernel))) (SndTL.cons_ (fun _ => rfl) (SndT.var rfl (.inl (by decide +kernel))) SndTL.nil_))) SndTL.nil_))) (SndB.cons_ (SndS.if_ (SndQ.cmp ne_ok rfl (Snd.bin mul_ok (Snd.sub (fun _ _ => rfl) (Snd.sub (fun _ _ => rfl) (Snd.var rfl (by decide +kernel) (by decide +kernel)) (Snd.var rfl (by decide +kernel) (by decide +kernel))) Snd.kInt) (Snd.sub (fun _ _ => rfl) (Snd.var rfl (by decide +kernel) (by decide +kernel)) (Snd.var rfl (by decide +kernel) (by decide +kernel)))) (Snd.bltn W W.b_sum (by decide +kernel) (by decide +kernel) sum_okk (fun _ => rfl) (Snd.lcIf (CompOk.of (sh := sh_law) (sh' := sh_law_7) (mp := [none, none, some 14, some 6]) (by decide +kernel)) (fun _ _ => rfl) (by intro h; cases h) (SndI.lst (Snd.var rfl (by decide +kernel) (by decide +kernel))) (SndT.var rfl (.inl (by decide +kernel))) (SndQ.cmp in_ok rfl (Snd.var rfl (by decide +kernel) (by decide +kernel)) (Snd.var rfl (by decide +kernel) (by decide +kernel))) (Snd.ucall W h_law_worth (by decide +kernel) (by decide +kernel) (fun _ => rfl) (SndL.cons_ (fun _ => rfl) (Snd.var rfl (by decide +kernel) (by decide +kernel)) (SndL.cons_ (fun _ => rfl) (Snd.var rfl (by decide +kernel) (by decide +kernel)) SndL.nil_)))))) (SndB.cons_ (SndS.ret Snd.kBool)
  SndB.nil_) SndB.nil_)
  (SndB.cons_ (SndS.if_ (SndQ.cmp eq_ok rfl (Snd.var rfl (by decide +kernel) (by decide +kernel)) Snd.kInt) (SndB.cons_ (SndS.assign (fun _ => rfl) (fun _ _ _ _ => rfl) (fun _ => rfl) (Snd.sub (fun _ _ => rfl) (Snd.sub (fun _ _ => rfl) (Snd.var rfl (by decide +kernel) (by decide +kernel)) (Snd.bin sub_ok (Snd.var rfl (by decide +kernel) (by decide +kernel)) Snd.kInt)) (Snd.bin sub_ok (Snd.var rfl (by decide +kernel) (by decide +kernel)) Snd.kInt)) (SndT.tup (fun _ => rfl) (fun _ => rfl) (SndTL.cons_ (fun _ => rfl) (SndT.var rfl (.inl (by decide +kernel))) (SndTL.cons_ (fun _ => rfl) (SndT.var rfl (.inl (by decide +kernel))) SndTL.nil_))))
  SndB.nil_) (SndB.cons_ (SndS.swap (xs := [(Str.ofString "first"), (Str.ofString "second"), (Str.ofString "between")]) (fun _ => rfl) (by intro env hk hl hc; have h0 := hl (Str.ofString "first") (by decide +kernel); have h1 := hl (Str.ofString "second") (by decide +kernel); have h2 := hl (Str.ofString "between") (by decide +kernel); simp only [swappedStores, Env.blockKind, hk, h0, h1, h2, List.filterMap_cons, List.filterMap_nil]; rfl) rfl (Snd.tup (SndL.cons_ (fun _ => rfl) (Snd.sub (fun _ _ => rfl) (Snd.sub (fun _ _ => rfl) (Snd.var rfl (by decide +kernel) (by decide +kernel)) (Snd.bin sub_ok (Snd.var rfl (by decide +kernel) (by decide +kernel)) Snd.kInt)) (Snd.bin sub_ok (Snd.var rfl (by decide +kernel) (by decide +kernel)) Snd.kInt)) (SndL.cons_ (fun _ => rfl) (Snd.sub (fun _ _ => rfl) (Snd.sub (fun _ _ => rfl) (Snd.var rfl (by decide +kernel) (by decide +kernel)) (Snd.bin sub_ok (Snd.var rfl (by decide +kernel) (by decide +kernel)) Snd.kInt)) (Snd.bin sub_ok (Snd.var rfl (by decide +kernel) (by decide +kernel)) Snd.kInt)) (SndL.cons_ (fun _ => rfl) (Snd.sub (fun _ _ => rfl) (Snd.sub (fun _ _ => rfl) (Snd.var rfl (by decide +kernel) (by decide +kernel)) (Snd.bin sub_ok (Snd.var rfl (by decide +kernel) (by decide +kernel)) Snd.kInt)) (Snd.bin sub_ok (Snd.var rfl (by decide +kernel) (by decide +kernel)) Snd.kInt)) SndL.nil_)))) (swap3 rfl rfl rfl (by decide +kernel) (by decide +kernel) (by decide +kernel) (by decide +kernel) (by decide +kernel) (by decide +kernel)))
  (SndB.cons_ (SndS.assign (fun _ => rfl) (fun _ _ _ _ => rfl) (fun _ => rfl) (Snd.bin mul_ok (Snd.bin mul_ok (Snd.sub (fun _ _ => rfl) (Snd.var rfl (by decide +kernel) (by decide +kernel)) Snd.kInt) (Snd.sub (fun _ _ => rfl) (Snd.var rfl (by decide +kernel) (by decide +kernel)) Snd.kInt)) (Snd.sub (fun _ _ => rfl) (Snd.var rfl (by decide +kernel) (by decide +kernel)) Snd.kInt)) (SndT.var rfl (.inl (by decide +kernel))))
  (SndB.cons_ (SndS.assign (fun _ => rfl) (fun _ _ _ _ => rfl) (fun _ => rfl) (Snd.bin sub_ok (Snd.bin mul_ok (Snd.bin add_ok (Snd.bin mul_ok (Snd.sub (fun _ _ => rfl) (Snd.var rfl (by decide +kernel) (by decide +kernel)) Snd.kInt) (Snd.sub (fun _ _ => rfl) (Snd.var rfl (by decide +kernel) (by decide +kernel)) Snd.kInt)) (Snd.bin mul_ok (Snd.sub (fun _ _ => rfl) (Snd.var rfl (by decide +kernel) (by decide +kernel)) Snd.kInt) (Snd.sub (fun _ _ => rfl) (Snd.var rfl (by decide +kernel) (by decide +kernel)) Snd.kInt))) (Snd.sub (fun _ _ => rfl) (Snd.var rfl (by decide +kernel) (by decide +kernel)) Snd.kInt)) (Snd.bin mul_ok (Snd.bin mul_ok (Snd.bin mul_ok Snd.kInt (Snd.sub (fun _ _ => rfl) (Snd.var rfl (by decide +kernel) (by decide +kernel)) Snd.kInt)) (Snd.sub (fun _ _ => rfl) (Snd.var rfl (by decide +kernel) (by decide +kernel)) Snd.kInt)) (Snd.sub (fun _ _ => rfl) (Snd.var rfl (by decide +kernel) (by decide +kernel)) Snd.kInt))) (SndT.var rfl (.inl (by decide +kernel))))
  SndB.nil_))))
  (SndB.cons_ (SndS.if_ (SndQ.not_ (SndQ.val (fun _ _ => rfl) (Snd.ucall W h_law_same (by decide +kernel) (by decide +kernel) (fun _ => rfl) (SndL.cons_ (fun _ => rfl) (Snd.tup (SndL.cons_ (fun _ => rfl) (Snd.var rfl (by decide +kernel) (by decide +kernel)) (SndL.cons_ (fun _ => rfl) (Snd.var rfl (by decide +kernel) (by decide +kernel)) SndL.nil_))) (SndL.cons_ (fun _ => rfl) (Snd.sub (fun _ _ => rfl) (Snd.var rfl (by decide +kernel) (by decide +kernel)) (Snd.var rfl (by decide +kernel) (by decide +kernel))) (SndL.cons_ (fun _ => rfl) (Snd.var rfl (by decide +kernel) (by decide +kernel)) SndL.nil_)))))) (SndB.cons_ (SndS.ret Snd.kBool)
  SndB.nil_) SndB.nil_)
  SndB.nil_))))
  (SndB.cons_ (SndS.if_ (SndQ.cmp ne_ok rfl (Snd.bltn W W.b_sum (by decide +kernel) (by decide +kernel) sum_okk (fun _ => rfl) (Snd.lc (CompOk.of (sh := sh_law) (sh' := sh_law_8) (mp := [none, none, none, some 6]) (by decide +kernel)) (fun _ _ => rfl) (fun _ => ⟨_, _, _, rfl⟩) (SndI.enm W (by decide +kernel) (fun _ => rfl) (Snd.var rfl (by decide +kernel) (by decide +kernel))) (SndT.tup (fun _ => rfl) (fun _ => rfl) (SndTL.cons_ (fun _ => rfl) (SndT.var rfl (.inl (by decide +kernel))) (SndTL.cons_ (fun _ => rfl) (SndT.var rfl (.inl (by decide +kernel))) SndTL.nil_))) (Snd.bin mul_ok (Snd.sub (fun _ _ => rfl) (Snd.sub (fun _ _ => rfl) (Snd.var rfl (by decide +kernel) (by decide +kernel)) (Snd.var rfl (by decide +kernel) (by decide +kernel))) Snd.kInt) (Snd.var rfl (by decide +kernel) (by decide +kernel))))) (Snd.bin mul_ok (Snd.bin sub_ok (Snd.var rfl (by decide +kernel) (by decide +kernel)) Snd.kInt) (Snd.var rfl (by decide +kernel) (by decide +kernel)))) (SndB.cons_ (SndS.ret Snd.kBool)
  SndB.nil_) SndB.nil_)
  (SndB.cons_ (SndS.assign (fun _ => rfl) (fun _ _ _ _ => rfl) (fun _ => rfl) (Snd.sub (fun _ _ => rfl) (Snd.var rfl (by decide +kernel) (by decide +kernel)) (Snd.var rfl (by decide +kernel) (by decide +kernel))) (SndT.tup (fun _ => rfl) (fun _ => rfl) (SndTL.cons_ (fun _ => rfl) (SndT.var rfl (.inl (by decide +kernel))) (SndTL.cons_ (fun _ => rfl) (SndT.var rfl (.inl (by decide +kernel))) SndTL.nil_))))
  (SndB.cons_ (SndS.assign (fun _ => rfl) (fun _ _ _ _ => rfl) (fun _ => rfl) (Snd.ucall W h_law_matrix (by decide +kernel) (by decide +kernel) (fun _ => rfl) (SndL.cons_ (fun _ => rfl) (Snd.var rfl (by decide +kernel) (by decide +kernel)) (SndL.cons_ (fun _ => rfl) (Snd.bin add_ok (Snd.var rfl (by decide +kernel) (by decide +kernel)) (Snd.lst (SndL.cons_ (fun _ => rfl) (Snd.tup (SndL.cons_ (fun _ => rfl) (Snd.var rfl (by decide +kernel) (by decide +kernel)) (SndL.cons_ (fun _ => rfl) (Snd.var rfl (by decide +kernel) (by decide +kernel)) (SndL.cons_ (fun _ => rfl) (Snd.var rfl (by decide +kernel) (by decide +kernel)) SndL.nil_)))) SndL.nil_))) SndL.nil_))) (SndT.var rfl (.inl (by decide +kernel))))
  (SndB.cons_ (SndS.if_ (SndQ.cmp ne_ok rfl (Snd.ucall W h_determinant (by decide +kernel) (by decide +kernel) (fun _ => rfl) (SndL.cons_ (fun _ => rfl) (Snd.ucall W h_law_without (by decide +kernel) (by decide +kernel) (fun _ => rfl) (SndL.cons_ (fun _ => rfl) (Snd.var rfl (by decide +kernel) (by decide +kernel)) (SndL.cons_ (fun _ => rfl) (Snd.lst (SndL.cons_ (fun _ => rfl) Snd.kInt SndL.nil_)) SndL.nil_))) SndL.nil_)) (Snd.bin add_ok (Snd.var rfl (by decide +kernel) (by decide +kernel)) (Snd.bin mul_ok (Snd.var rfl (by decide +kernel) (by decide +kernel)) (Snd.sub (fun _ _ => rfl) (Snd.var rfl (by decide +kernel) (by decide +kernel)) (Snd.var rfl (by decide +kernel) (by decide +kernel)))))) (SndB.cons_ (SndS.ret Snd.kBool)
  SndB.nil_) SndB.nil_)
  (SndB.cons_ (SndS.swap (xs := [(Str.ofString "there"), (Str.ofString "back")]) (fun _ => rfl) (by intro env hk hl hc; have h0 := hl (Str.ofString "there") (by decide +kernel); have h1 := hl (Str.ofString "back") (by decide +kernel); simp only [swappedStores, Env.blockKind, hk, h0, h1, List.filterMap_cons, List.filterMap_nil]; rfl) rfl (Snd.tup (SndL.cons_ (fun _ => rfl) (Snd.ucall W h_law_steps (by decide +kernel) (by decide +kernel) (fun _ => rfl) (SndL.cons_ (fun _ => rfl) (Snd.var rfl (by decide +kernel) (by decide +kernel)) (SndL.cons_ (fun _ => rfl) (Snd.var rfl (by decide +kernel) (by decide +kernel)) (SndL.cons_ (fun _ => rfl) (Snd.var rfl (by decide +kernel) (by decide +kernel)) SndL.nil_)))) (SndL.cons_ (fun _ => rfl) (Snd.ucall W h_law_steps (by decide +kernel) (by decide +kernel) (fun _ => rfl) (SndL.cons_ (fun _ => rfl) (Snd.var rfl (by decide +kernel) (by decide +kernel)) (SndL.cons_ (fun _ => rfl) (Snd.var rfl (by decide +kernel) (by decide +kernel)) (SndL.cons_ (fun _ => rfl) (Snd.var rfl (by decide +kernel) (by decide +kernel)) SndL.nil_)))) SndL.nil_))) (swap2 rfl rfl (by decide +kernel) (by decide +kernel) (by decide +kernel)))
  (SndB.cons_ (SndS.if_ (SndQ.or_ (SndQ.cmp isNone_ok rfl (Snd.var rfl (by decide +kernel) (by decide +kernel)) Snd.kNone) (SndQ.cmp isNone_ok rfl (Snd.var rfl (by decide +kernel) (by decide +kernel)) Snd.kNone)) (SndB.cons_ (SndS.ret Snd.kBool)
  SndB.nil_) SndB.nil_)
  (SndB.cons_ (SndS.assign (fun _ => rfl) (fun _ _ _ _ => rfl) (fun _ => rfl) (Snd.tup (SndL.cons_ (fun _ => rfl) (Snd.bin add_ok (Snd.bin mul_ok (Snd.sub (fun _ _ => rfl) (Snd.var rfl (by decide +kernel) (by decide +kernel)) Snd.kInt) (Snd.sub (fun _ _ => rfl) (Snd.var rfl (by decide +kernel) (by decide +kernel)) Snd.kInt)) (Snd.bin mul_ok (Snd.sub (fun _ _ => rfl) (Snd.var rfl (by decide +kernel) (by decide +kernel)) Snd.kInt) (Snd.sub (fun _ _ => rfl) (Snd.var rfl (by decide +kernel) (by decide +kernel)) Snd.kInt))) (SndL.cons_ (fun _ => rfl) (Snd.bin mul_ok (Snd.sub (fun _ _ => rfl) (Snd.var rfl (by decide +kernel) (by decide +kernel)) Snd.kInt) (Snd.sub (fun _ _ => rfl) (Snd.var rfl (by decide +kernel) (by decide +kernel)) Snd.kInt)) SndL.nil_))) (SndT.var rfl (.inl (by decide +kernel))))
  (SndB.cons_ (SndS.if_ (SndQ.not_ (SndQ.val (fun _ _ => rfl) (Snd.ucall W h_law_same (by decide +kernel) (by decide +kernel) (fun _ => rfl) (SndL.cons_ (fun _ => rfl) (Snd.var rfl (by decide +kernel) (by decide +kernel)) (SndL.cons_ (fun _ => rfl) (Snd.bin mul_ok (Snd.bin mul_ok Snd.kInt (Snd.bltn W W.b_sum (by decide +kernel) (by decide +kernel) sum_okk (fun _ => rfl) (Snd.lc (CompOk.of (sh := sh_law) (sh' := sh_law_9) (mp := [none, none]) (by decide +kernel)) (fun _ _ => rfl) (by intro h; cases h) (SndI.lst (Snd.var rfl (by decide +kernel) (by decide +kernel))) (SndT.var rfl (.inl (by decide +kernel))) (Snd.sub (fun _ _ => rfl) (Snd.var rfl (by decide +kernel) (by decide +kernel)) Snd.kInt)))) (Snd.sub (fun _ _ => rfl) (Snd.var rfl (by decide +kernel) (by decide +kernel)) (Snd.var rfl (by decide +kernel) (by decide +kernel)))) (SndL.cons_ (fun _ => rfl) (Snd.var rfl (by decide +kernel) (by decide +kernel)) SndL.nil_)))))) (SndB.cons_ (SndS.ret Snd.kBool)
  SndB.nil_) SndB.nil_)
  (SndB.cons_ (SndS.assign (fun _ => rfl) (fun _ _ _ _ => rfl) (fun _ => rfl) (Snd.bin sub_ok Snd.kInt (Snd.bin mul_ok Snd.kInt (Snd.bin mod_ok (Snd.var rfl (by decide +kernel) (by decide +kernel)) Snd.kInt))) (SndT.var rfl (.inl (by decide +kernel))))
  (SndB.cons_ (SndS.ret (Snd.cmp eq_ok rfl (Snd.upto (Snd.ucall W h_charpoly (by decide +kernel) (by decide +kernel) (fun _ => rfl) (SndL.cons_ (fun _ => rfl) (Snd.ucall W h_from_whole (by decide +kernel) (by decide +kernel) (fun _ => rfl) (SndL.cons_ (fun _ => rfl) (Snd.var rfl (by decide +kernel) (by decide +kernel)) SndL.nil_)) SndL.nil_)) Snd.kInt) (Snd.lst (SndL.cons_ (fun _ => rfl) (Snd.tup (SndL.cons_ (fun _ => rfl) Snd.kInt (SndL.cons_ (fun _ => rfl) Snd.kInt SndL.nil_))) (SndL.cons_ (fun _ => rfl) (Snd.tup (SndL.cons_ (fun _ => rfl) (Snd.bin sub_ok Snd.kInt (Snd.bin mul_ok (Snd.bin mul_ok (Snd.var rfl (by decide +kernel) (by decide +kernel)) (Snd.var rfl (by decide +kernel) (by decide +kernel))) (Snd.var rfl (by decide +kernel) (by decide +kernel)))) (SndL.cons_ (fun _ => rfl) Snd.kInt SndL.nil_))) (SndL.cons_ (fun _ => rfl) (Snd.tup (SndL.cons_ (fun _ => rfl) (Snd.bin mul_ok (Snd.var rfl (by decide +kernel) (by decide +kernel)) (Snd.bltn W W.b_sum (by decide +kernel) (by decide +kernel) sum_okk (fun _ => rfl) (Snd.var rfl (by decide +kernel) (by decide +kernel)))) (SndL.cons_ (fun _ => rfl) Snd.kInt SndL.nil_))) SndL.nil_))))))
  SndB.nil_))))))))))))))))))))))
end Mine
-- G6
namespace Mine
open PySem PySem.W PyProof.Rows
theorem w_all {prog : Program} {w : World} {h₀ : Heap} {mg mb : Str → Option Value} (W : Wd h₀ mg mb) (R : ∀ k ∈ [3, 7, 8, 9, 10, 11, 12, 14, 15, 16, 17, 18, 19, 20, 21, 22, 23, 24, 25, 26, 27, 28, 30, 32, 33, 34, 36, 37, 39, 40, 41, 42, 43, 44, 45, 46], Fn_ h₀ mg (rc k)) : CallOk prog w h₀ mg 9 (Str.ofString "law") lawF := by
  have h_gcd := w_gcdF (prog := prog) (w := w) W (R 3 (by decide)) 
  have h_rat := w_rat (prog := prog) (w := w) W (R 7 (by decide)) (h_gcd.mono_ (by decide))
  have h_radd := w_radd (prog := prog) (w := w) W (R 8 (by decide)) (h_rat.mono_ (by decide))
  have h_rsub := w_rsub (prog := prog) (w := w) W (R 9 (by decide)) (h_rat.mono_ (by decide))
  have h_rmul := w_rmul (prog := prog) (w := w) W (R 10 (by decide)) (h_rat.mono_ (by decide))
  have h_rdiv := w_rdiv (prog := prog) (w := w) W (R 11 (by decide)) (h_rat.mono_ (by decide))
  have h_rneg := w_rneg (prog := prog) (w := w) W (R 12 (by decide)) 
  have h_shape := w_shape (prog := prog) (w := w) W (R 14 (by decide)) 
  have h_need_shape := w_need_shape (prog := prog) (w := w) W (R 15 (by decide)) 
  have h_copied := w_copied (prog := prog) (w := w) W (R 16 (by decide)) 
  have h_from_whole := w_from_whole (prog := prog) (w := w) W (R 17 (by decide)) 
  have h_unit_matrix := w_unit_matrix (prog := prog) (w := w) W (R 18 (by decide)) 
  have h_transposed := w_transposed (prog := prog) (w := w) W (R 19 (by decide)) (h_shape.mono_ (by decide))
  have h_dot := w_dot (prog := prog) (w := w) W (R 20 (by decide)) (h_radd.mono_ (by decide)) (h_rmul.mono_ (by decide))
  have h_mat_add := w_mat_add (prog := prog) (w := w) W (R 21 (by decide)) (h_radd.mono_ (by decide)) (h_shape.mono_ (by decide)) (h_need_shape.mono_ (by decide))
  have h_mat_scale := w_mat_scale (prog := prog) (w := w) W (R 22 (by decide)) (h_rmul.mono_ (by decide))
  have h_mat_mul := w_mat_mul (prog := prog) (w := w) W (R 23 (by decide)) (h_shape.mono_ (by decide)) (h_need_shape.mono_ (by decide)) (h_transposed.mono_ (by decide)) (h_dot.mono_ (by decide))
  have h_trace := w_trace (prog := prog) (w := w) W (R 24 (by decide)) (h_radd.mono_ (by decide)) (h_shape.mono_ (by decide)) (h_need_shape.mono_ (by decide))
  have h_swap_rows := w_swap_rows (prog := prog) (w := w) W (R 25 (by decide)) 
  have h_take_off := w_take_off (prog := prog) (w := w) W (R 26 (by decide)) (h_rsub.mono_ (by decide)) (h_rmul.mono_ (by decide))
  have h_echelon := w_echelon (prog := prog) (w := w) W (R 27 (by decide)) (h_rdiv.mono_ (by decide)) (h_shape.mono_ (by decide)) (h_copied.mono_ (by decide)) (h_swap_rows.mono_ (by decide)) (h_take_off.mono_ (by decide))
  have h_inverse := w_inverse (prog := prog) (w := w) W (R 28 (by decide)) (h_shape.mono_ (by decide)) (h_need_shape.mono_ (by decide)) (h_unit_matrix.mono_ (by decide)) (h_echelon.mono_ (by decide))
  have h_charpoly := w_charpoly (prog := prog) (w := w) W (R 30 (by decide)) (h_rdiv.mono_ (by decide)) (h_rneg.mono_ (by decide)) (h_shape.mono_ (by decide)) (h_need_shape.mono_ (by decide)) (h_unit_matrix.mono_ (by decide)) (h_mat_add.mono_ (by decide)) (h_mat_scale.mono_ (by decide)) (h_mat_mul.mono_ (by decide)) (h_trace.mono_ (by decide))
  have h_pivot_row := w_pivot_row (prog := prog) (w := w) W (R 32 (by decide)) 
  have h_bareiss_step := w_bareiss_step (prog := prog) (w := w) W (R 33 (by decide)) 
  have h_determinant := w_determinant (prog := prog) (w := w) W (R 34 (by decide)) (h_pivot_row.mono_ (by decide)) (h_bareiss_step.mono_ (by decide))
  have h_null_base := w_null_base (prog := prog) (w := w) W (R 36 (by decide)) (h_rneg.mono_ (by decide)) (h_shape.mono_ (by decide)) (h_echelon.mono_ (by decide))
  have h_solve_system := w_solve_system (prog := prog) (w := w) W (R 37 (by decide)) (h_shape.mono_ (by decide)) (h_need_shape.mono_ (by decide)) (h_echelon.mono_ (by decide)) (h_null_base.mono_ (by decide))
  have h_law_draw := w_law_draw (prog := prog) (w := w) W (R 39 (by decide)) 
  have h_law_ways := w_law_ways (prog := prog) (w := w) W (R 40 (by decide)) 
  have h_law_worth := w_law_worth (prog := prog) (w := w) W (R 41 (by decide)) 
  have h_law_matrix := w_law_matrix (prog := prog) (w := w) W (R 42 (by decide)) 
  have h_law_without := w_law_without (prog := prog) (w := w) W (R 43 (by decide)) 
  have h_law_same := w_law_same (prog := prog) (w := w) W (R 44 (by decide)) 
  have h_law_steps := w_law_steps (prog := prog) (w := w) W (R 45 (by decide)) (h_from_whole.mono_ (by decide)) (h_solve_system.mono_ (by decide)) (h_law_without.mono_ (by decide))
  have h_law := w_law (prog := prog) (w := w) W (R 46 (by decide)) (h_from_whole.mono_ (by decide)) (h_inverse.mono_ (by decide)) (h_charpoly.mono_ (by decide)) (h_determinant.mono_ (by decide)) (h_law_draw.mono_ (by decide)) (h_law_ways.mono_ (by decide)) (h_law_worth.mono_ (by decide)) (h_law_matrix.mono_ (by decide)) (h_law_without.mono_ (by decide)) (h_law_same.mono_ (by decide)) (h_law_steps.mono_ (by decide))
  exact h_law
end Mine
-- H1
set_option maxHeartbeats 1000000
namespace Mine
open PySem
noncomputable abbrev Q := Int × Int
noncomputable def qD (q : Q) : D := .tup [.int q.1, .int q.2]
noncomputable def iQ (k : Int) : Q := (k, 1)
theorem mkFn_run {k m : Nat} {c : SCmd} {ds : List D} {σ σ' : Sto} {d : D} {Γ' : Gam} (hk : ds.length = k) (h : c (ds.map some ++ List.replicate (m - k) none) σ = some (.ret d, Γ', σ'))
    {r} (hf : finish σ.length d σ' = some r) : mkFn k m c ds σ = some r := by
  unfold mkFn; rw [if_pos hk, h]; exact hf
theorem mkFn_end {k m : Nat} {c : SCmd} {ds : List D} {σ σ' : Sto} {Γ' : Gam} (hk : ds.length = k) (h : c (ds.map some ++ List.replicate (m - k) none) σ = some (.next, Γ', σ'))
    {r} (hf : finish σ.length D.none σ' = some r) : mkFn k m c ds σ = some r := by
  unfold mkFn; rw [if_pos hk, h]; exact hf
theorem finish_same {d : D} {σ σ' : Sto} (h : σ'.length = σ.length) : finish σ.length d σ' = some (d, σ') := by
  unfold finish; rw [if_pos h]
theorem finish_self {d : D} {σ : Sto} : finish σ.length d σ = some (d, σ) := finish_same rfl
theorem ret_self {k m : Nat} {c : SCmd} {ds : List D} {σ : Sto} {d : D} {Γ' : Gam} (hk : ds.length = k) (h : c (ds.map some ++ List.replicate (m - k) none) σ = some (.ret d, Γ', σ)) : mkFn k m c ds σ = some (d, σ) :=
  mkFn_run hk h finish_self
/-- the sign of a whole number is plus -/
noncomputable def isPos (i : Int) : Bool := match i with | .ofNat (_ + 1) => true | _ => false
theorem isPos_iff {i : Int} (h : isPos i = true) : 0 < i := by
  unfold isPos at h; split at h
  · exact Int.ofNat_lt.mpr (Nat.succ_pos _)
  · cases h
noncomputable def ratP (t b : Int) : Option Q :=
  match isPos b with
  | true => (fun g : Int => match small g with | true => some (t.fdiv g, b.fdiv g) | false => none) (Int.ofNat (Int.gcd t b))
  | false => none
noncomputable def raddP (a b : Q) : Option Q := match small a.1 && small a.2 && small b.1 with | true => ratP (a.1 * b.2 + b.1 * a.2) (a.2 * b.2) | false => none
noncomputable def rsubP (a b : Q) : Option Q := match small a.1 && small a.2 && small b.1 with | true => ratP (a.1 * b.2 - b.1 * a.2) (a.2 * b.2) | false => none
noncomputable def rmulP (a b : Q) : Option Q := match small a.1 && small a.2 with | true => ratP (a.1 * b.1) (a.2 * b.2) | false => none
noncomputable def rdivP (a b : Q) : Option Q := match small a.1 && small a.2 with | true => (match isPos b.1 with | true => ratP (a.1 * b.2) (a.2 * b.1) | false => none) | false => none
noncomputable def rnegP (a : Q) : Q := (0 - a.1, a.2)
theorem bind_eq {α β : Type} {o : Option α} {a : α} {f : α → Option β} (h : o = some a) : o.bind f = f a := by rw [h]; rfl
theorem rat_eq {t b : Int} {r : Q} {σ : Sto} (h : ratP t b = some r) : ratF [.int t, .int b] σ = some (qD r, σ) := by
  unfold ratP at h
  split at h
  · rename_i hb
    have hb := isPos_iff hb
    dsimp only at h
    split at h
    · rename_i hs
      cases h
      have hg : (Int.ofNat (Int.gcd t b)) ≠ 0 := by
        have := Int.gcd_pos_of_ne_zero_right t (show b ≠ 0 by omega)
        intro e
        have e' : ((Int.gcd t b : Nat) : Int) = 0 := e
        omega
      refine ret_self (Γ' := [some (.int t), some (.int b), some (.int (Int.ofNat (Int.gcd t b)))]) rfl ?_
      unfold c_rat
      have h1 : sIf (qVal (c2 eqD (cVar 1) (cK (.int 0)))) (bCons sRaise bNil) bNil [some (.int t), some (.int b), none] σ = some (.next, [some (.int t), some (.int b), none], σ) := by
        have : (b == 0) = false := by rw [beq_eq_false_iff_ne]; omega
        show (if (b == 0) = true then _ else _) = _
        rw [this]; rfl
      refine (bCons_next h1).trans ?_
      have h2 : sAssign (cIf (qVal (c2 gtD (cVar 1) (cK (.int 0)))) (cCall gcdF (cCons (cVar 0) (cCons (cVar 1) cNil))) (c2 subD (cK (.int 0)) (cCall gcdF (cCons (cVar 0) (cCons (cVar 1) cNil))))) (tVar 2)
          [some (.int t), some (.int b), none] σ = some (.next, [some (.int t), some (.int b), some (.int (Int.ofNat (Int.gcd t b)))], σ) := by
        have : decide (b > 0) = true := decide_eq_true hb
        have e : cIf (qVal (c2 gtD (cVar 1) (cK (.int 0)))) (cCall gcdF (cCons (cVar 0) (cCons (cVar 1) cNil))) (c2 subD (cK (.int 0)) (cCall gcdF (cCons (cVar 0) (cCons (cVar 1) cNil)))) [some (.int t), some (.int b), none] σ = some (.int (Int.ofNat (Int.gcd t b)), σ) := by
          show (if decide (b > 0) = true then _ else _) = _
          rw [this]; rfl
        unfold sAssign
        rw [e]; rfl
      refine (bCons_next h2).trans ?_
      have hd : ∀ x : Int, divD (.int x) (.int (Int.ofNat (Int.gcd t b))) σ = some (.int (x.fdiv (Int.ofNat (Int.gcd t b))), σ) := fun x => by
        show (if (Int.ofNat (Int.gcd t b)) = 0 then none else if small (Int.ofNat (Int.gcd t b)) then _ else none) = _
        rw [if_neg hg, if_pos hs]
      have e : cTup (cCons (c2 divD (cVar 0) (cVar 2)) (cCons (c2 divD (cVar 1) (cVar 2)) cNil)) [some (.int t), some (.int b), some (.int (Int.ofNat (Int.gcd t b)))] σ =
          some (.tup [.int (t.fdiv (Int.ofNat (Int.gcd t b))), .int (b.fdiv (Int.ofNat (Int.gcd t b)))], σ) := by
        have e1 : c2 divD (cVar 0) (cVar 2) [some (.int t), some (.int b), some (.int (Int.ofNat (Int.gcd t b)))] σ = some (.int (t.fdiv (Int.ofNat (Int.gcd t b))), σ) := hd t
        have e2 : c2 divD (cVar 1) (cVar 2) [some (.int t), some (.int b), some (.int (Int.ofNat (Int.gcd t b)))] σ = some (.int (b.fdiv (Int.ofNat (Int.gcd t b))), σ) := hd b
        unfold cTup cCons
        rw [e1]; simp only [Option.bind_some]
        rw [e2]; rfl
      unfold bCons sRet
      rw [e]; rfl
    · cases h
  · cases h
theorem small_lt' {i : Int} : small i = true ↔ i.natAbs < 4611686018427387904 := by
  unfold small; rw [Nat.blt_eq]
theorem mulD_eq {a b : Int} {σ : Sto} (h : small a = true) : mulD (.int a) (.int b) σ = some (.int (a * b), σ) := by
  show (if small a then _ else none) = _
  rw [if_pos h]
section
variable {a b : Q} {σ : Sto} {r : Q}
theorem get0 {Γ : Gam} {i : Nat} (h : Γ[i]? = some (some (qD a))) : c2 idxD (cVar i) (cK (.int 0)) Γ σ = some (.int a.1, σ) := by
  unfold c2 cVar cK; rw [h]; rfl
theorem get1 {Γ : Gam} {i : Nat} (h : Γ[i]? = some (some (qD a))) : c2 idxD (cVar i) (cK (.int 1)) Γ σ = some (.int a.2, σ) := by
  unfold c2 cVar cK; rw [h]; rfl
theorem mul_run {x y : Cmd} {p q : Int} {Γ : Gam} (hx : x Γ σ = some (.int p, σ)) (hy : y Γ σ = some (.int q, σ)) (hp : small p = true) : c2 mulD x y Γ σ = some (.int (p * q), σ) := by
  unfold c2; rw [hx]; simp only [Option.bind_some]; rw [hy]; exact mulD_eq hp
theorem add_run {x y : Cmd} {p q : Int} {Γ : Gam} (hx : x Γ σ = some (.int p, σ)) (hy : y Γ σ = some (.int q, σ)) : c2 addD x y Γ σ = some (.int (p + q), σ) := by
  unfold c2; rw [hx]; simp only [Option.bind_some]; rw [hy]; rfl
theorem sub_run {x y : Cmd} {p q : Int} {Γ : Gam} (hx : x Γ σ = some (.int p, σ)) (hy : y Γ σ = some (.int q, σ)) : c2 subD x y Γ σ = some (.int (p - q), σ) := by
  unfold c2; rw [hx]; simp only [Option.bind_some]; rw [hy]; rfl
theorem call2_run {F : Fn} {x y : Cmd} {p q d : D} {Γ : Gam} (hx : x Γ σ = some (p, σ)) (hy : y Γ σ = some (q, σ)) (h : F [p, q] σ = some (d, σ)) : cCall F (cCons x (cCons y cNil)) Γ σ = some (d, σ) := by
  unfold cCall cCons; rw [hx]; simp only [Option.bind_some]; rw [hy]; exact h
theorem call1_run {F : Fn} {x : Cmd} {p d : D} {Γ : Gam} (hx : x Γ σ = some (p, σ)) (h : F [p] σ = some (d, σ)) : cCall F (cCons x cNil) Γ σ = some (d, σ) := by
  unfold cCall cCons; rw [hx]; exact h
theorem ret_run {x : Cmd} {d : D} {Γ : Gam} {σ' : Sto} {rest : SCmd} (hx : x Γ σ = some (d, σ')) : bCons (sRet x) rest Γ σ = some (.ret d, Γ, σ') := by
  unfold bCons sRet; rw [hx]; rfl
theorem radd_eq (h : raddP a b = some r) : raddF [qD a, qD b] σ = some (qD r, σ) := by
  unfold raddP at h
  split at h
  · rename_i hs
    simp only [Bool.and_eq_true] at hs
    refine ret_self (Γ' := [some (qD a), some (qD b)]) rfl (ret_run (call2_run (add_run (mul_run (get0 rfl) (get1 rfl) hs.1.1) (mul_run (get0 rfl) (get1 rfl) hs.2)) (mul_run (get1 rfl) (get1 rfl) hs.1.2) (rat_eq h)))
  · cases h
theorem rsub_eq (h : rsubP a b = some r) : rsubF [qD a, qD b] σ = some (qD r, σ) := by
  unfold rsubP at h
  split at h
  · rename_i hs
    simp only [Bool.and_eq_true] at hs
    refine ret_self (Γ' := [some (qD a), some (qD b)]) rfl (ret_run (call2_run (sub_run (mul_run (get0 rfl) (get1 rfl) hs.1.1) (mul_run (get0 rfl) (get1 rfl) hs.2)) (mul_run (get1 rfl) (get1 rfl) hs.1.2) (rat_eq h)))
  · cases h
theorem rmul_eq (h : rmulP a b = some r) : rmulF [qD a, qD b] σ = some (qD r, σ) := by
  unfold rmulP at h
  split at h
  · rename_i hs
    simp only [Bool.and_eq_true] at hs
    refine ret_self (Γ' := [some (qD a), some (qD b)]) rfl (ret_run (call2_run (mul_run (get0 rfl) (get0 rfl) hs.1) (mul_run (get1 rfl) (get1 rfl) hs.2) (rat_eq h)))
  · cases h
theorem rdiv_eq (h : rdivP a b = some r) : rdivF [qD a, qD b] σ = some (qD r, σ) := by
  unfold rdivP at h
  split at h
  · rename_i hs
    simp only [Bool.and_eq_true] at hs
    split at h
    · refine ret_self (Γ' := [some (qD a), some (qD b)]) rfl (ret_run (call2_run (mul_run (get0 rfl) (get1 rfl) hs.1) (mul_run (get1 rfl) (get0 rfl) hs.2) (rat_eq h)))
    · cases h
  · cases h
theorem rneg_eq : rnegF [qD a] σ = some (qD (rnegP a), σ) := ret_self (Γ' := [some (qD a)]) rfl rfl
end
end Mine
-- H2
set_option maxHeartbeats 1000000
namespace Mine
open PySem
noncomputable def tiny (i : Int) : Bool := Nat.blt i.natAbs 2147483648
theorem tiny_lt {i : Int} (h : tiny i = true) : i.natAbs < 2147483648 := by unfold tiny at h; rwa [Nat.blt_eq] at h
theorem small_of {i : Int} (h : i.natAbs < 4611686018427387904) : small i = true := small_lt'.mpr h
theorem small_tiny {i : Int} (h : tiny i = true) : small i = true := small_of (by have := tiny_lt h; omega)
noncomputable def nf (t b : Int) : Q := (t.fdiv (Int.ofNat (Int.gcd t b)), b.fdiv (Int.ofNat (Int.gcd t b)))
theorem isPos_of {b : Int} (h : 0 < b) : isPos b = true := by
  obtain ⟨n, rfl⟩ := Int.eq_ofNat_of_zero_le (Int.le_of_lt h)
  cases n with
  | zero => simp at h
  | succ n => rfl
theorem pos_r {g p : Int} (h : 0 < g * p) (hg : 0 < g) : 0 < p := by
  rcases Int.lt_or_le 0 p with q | q
  · exact q
  · have := Int.mul_le_mul_of_nonneg_left q (Int.le_of_lt hg)
    rw [Int.mul_zero] at this; omega
theorem gcd_pos' {t b : Int} (hb : 0 < b) : 0 < Int.ofNat (Int.gcd t b) := by
  have := Int.gcd_pos_of_ne_zero_right t (show b ≠ 0 by omega)
  exact Int.ofNat_lt.mpr this
theorem gcd_le' {t b : Int} (hb : 0 < b) : Int.gcd t b ≤ b.natAbs := Nat.le_of_dvd (by omega) (Int.gcd_dvd_natAbs_right t b)
theorem ratP_nf {t b : Int} (hb : 0 < b) (hs : b.natAbs < 4611686018427387904) : ratP t b = some (nf t b) := by
  unfold ratP
  rw [isPos_of hb]
  have : small (Int.ofNat (Int.gcd t b)) = true := small_of (by have := gcd_le' (t := t) hb; show Int.gcd t b < _; omega)
  dsimp only
  rw [this]; rfl
theorem nf_spec {t b : Int} (hb : 0 < b) : ∃ g p q : Int, 0 < g ∧ t = g * p ∧ b = g * q ∧ nf t b = (p, q) ∧ 0 < q := by
  refine ⟨Int.ofNat (Int.gcd t b), _, _, gcd_pos' hb, ?_, ?_, rfl, ?_⟩
  · exact (Int.mul_fdiv_cancel' (Int.gcd_dvd_left ..)).symm
  · exact (Int.mul_fdiv_cancel' (Int.gcd_dvd_right ..)).symm
  · have h := (Int.mul_fdiv_cancel' (Int.gcd_dvd_right t b))
    have hg := gcd_pos' (t := t) hb
    have : 0 < Int.ofNat (Int.gcd t b) * b.fdiv (Int.ofNat (Int.gcd t b)) := by
      rw [show Int.ofNat (Int.gcd t b) * b.fdiv (Int.ofNat (Int.gcd t b)) = b from h]; exact hb
    exact pos_r this hg
theorem nf_scale {k t b : Int} (hk : 0 < k) (hb : 0 < b) : nf (k * t) (k * b) = nf t b := by
  obtain ⟨n, rfl⟩ := Int.eq_ofNat_of_zero_le (Int.le_of_lt hk)
  have e : Int.ofNat (Int.gcd (n * t) (n * b)) = (n : Int) * Int.ofNat (Int.gcd t b) := by
    rw [Int.gcd_mul_left]; rfl
  unfold nf
  rw [e, Int.mul_fdiv_mul_of_pos _ _ hk, Int.mul_fdiv_mul_of_pos _ _ hk]
theorem nf_one {t : Int} : nf t 1 = (t, 1) := by
  unfold nf; rw [Int.gcd_one_right]; simp [Int.fdiv_one]
theorem abs_le_mul {g p : Int} (hg : 0 < g) : p.natAbs ≤ (g * p).natAbs := by
  rw [Int.natAbs_mul]; exact Nat.le_mul_of_pos_left _ (by omega)
theorem nf_zero {t b : Int} (hb : 0 < b) : nf t b = (0, 1) ↔ t = 0 := by
  constructor
  · intro h
    obtain ⟨g, p, q, hg, ht, hb', e, hq⟩ := nf_spec (t := t) hb
    rw [h] at e; cases e; rw [ht]; simp
  · intro h; subst h
    unfold nf
    rw [Int.gcd_zero_left]
    have : Int.ofNat b.natAbs = b := by show ((b.natAbs : Nat) : Int) = b; omega
    rw [this]; simp [Int.fdiv_self (show b ≠ 0 by omega)]
section
variable {σ : Sto}
theorem rdiv_nf {a b d : Int} (hd : 0 < d) (hb : 0 < b) (ta : small a = true) (tb : tiny b = true) (td : tiny d = true) : rdivF [qD (nf a d), qD (nf b d)] σ = some (qD (nf a b), σ) := by
  obtain ⟨g, p, q, hg, ha, hd', e, hq⟩ := nf_spec (t := a) hd
  obtain ⟨g', p', q', hg', hb', hd'', e', hq'⟩ := nf_spec (t := b) hd
  rw [e, e']
  have hp' : 0 < p' := pos_r (hb' ▸ hb) hg'
  have l1 : q.natAbs ≤ d.natAbs := by rw [hd']; exact abs_le_mul hg
  have l2 : p'.natAbs ≤ b.natAbs := by rw [hb']; exact abs_le_mul hg'
  have l3 : p.natAbs ≤ a.natAbs := by rw [ha]; exact abs_le_mul hg
  have hd1 := tiny_lt td
  have hb1 := tiny_lt tb
  have hqp : 0 < q * p' := Int.mul_pos hq hp'
  have hs : (q * p').natAbs < 4611686018427387904 := by
    rw [Int.natAbs_mul]
    exact Nat.lt_of_lt_of_le (Nat.mul_lt_mul'' (show q.natAbs < 2147483648 by omega) (show p'.natAbs < 2147483648 by omega)) (by decide)
  refine rdiv_eq (a := (p, q)) (b := (p', q')) ?_
  unfold rdivP
  have s1 : small p = true := small_of (by have := small_lt'.mp ta; omega)
  have s2 : small q = true := small_of (by omega)
  simp only [s1, s2, Bool.and_self, isPos_of hp']
  rw [ratP_nf hqp hs]
  have : nf a b = nf (p * q') (q * p') := by
    -- a = g p, b = g' p', d = g q = g' q'
    have e1 : nf (g * g' * (p * q')) (g * g' * (q * p')) = nf (p * q') (q * p') := nf_scale (Int.mul_pos hg hg') hqp
    have e2 : nf (d * a) (d * b) = nf a b := nf_scale hd hb
    have x1 : g * g' * (p * q') = d * a := by
      rw [show g * g' * (p * q') = (g' * q') * (g * p) by ac_rfl, ← hd'', ← ha]
    have x2 : g * g' * (q * p') = d * b := by
      rw [show g * g' * (q * p') = (g * q) * (g' * p') by ac_rfl, ← hd', ← hb']
    rw [← e1, ← e2, x1, x2]
  rw [this]
theorem rmul_nf {a d b l : Int} (hd : 0 < d) (hl : 0 < l) (ta : small a = true) (td : tiny d = true) (tl : tiny l = true) : rmulF [qD (nf a d), qD (nf b l)] σ = some (qD (nf (a * b) (d * l)), σ) := by
  obtain ⟨g, p, q, hg, ha, hd', e, hq⟩ := nf_spec (t := a) hd
  obtain ⟨g', p', q', hg', hb', hl', e', hq'⟩ := nf_spec (t := b) hl
  rw [e, e']
  have l1 : q.natAbs ≤ d.natAbs := by rw [hd']; exact abs_le_mul hg
  have l2 : q'.natAbs ≤ l.natAbs := by rw [hl']; exact abs_le_mul hg'
  have l3 : p.natAbs ≤ a.natAbs := by rw [ha]; exact abs_le_mul hg
  have hd1 := tiny_lt td
  have hl1 := tiny_lt tl
  have hqq : 0 < q * q' := Int.mul_pos hq hq'
  have hs : (q * q').natAbs < 4611686018427387904 := by
    rw [Int.natAbs_mul]
    exact Nat.lt_of_lt_of_le (Nat.mul_lt_mul'' (show q.natAbs < 2147483648 by omega) (show q'.natAbs < 2147483648 by omega)) (by decide)
  refine rmul_eq (a := (p, q)) (b := (p', q')) ?_
  unfold rmulP
  have s1 : small p = true := small_of (by have := small_lt'.mp ta; omega)
  have s2 : small q = true := small_of (by omega)
  simp only [s1, s2, Bool.and_self]
  rw [ratP_nf hqq hs, ← nf_scale (Int.mul_pos hg hg') hqq, show g * g' * (p * p') = (g * p) * (g' * p') by ac_rfl, show g * g' * (q * q') = (g * q) * (g' * q') by ac_rfl, ← ha, ← hb', ← hd', ← hl']
theorem rsub_nf {a d b l : Int} (hd : 0 < d) (hl : 0 < l) (ta : small a = true) (tb : small b = true) (td : tiny d = true) (tl : tiny l = true) : rsubF [qD (nf a d), qD (nf b l)] σ = some (qD (nf (a * l - b * d) (d * l)), σ) := by
  obtain ⟨g, p, q, hg, ha, hd', e, hq⟩ := nf_spec (t := a) hd
  obtain ⟨g', p', q', hg', hb', hl', e', hq'⟩ := nf_spec (t := b) hl
  rw [e, e']
  have l1 : q.natAbs ≤ d.natAbs := by rw [hd']; exact abs_le_mul hg
  have l2 : q'.natAbs ≤ l.natAbs := by rw [hl']; exact abs_le_mul hg'
  have l3 : p.natAbs ≤ a.natAbs := by rw [ha]; exact abs_le_mul hg
  have l4 : p'.natAbs ≤ b.natAbs := by rw [hb']; exact abs_le_mul hg'
  have hd1 := tiny_lt td
  have hl1 := tiny_lt tl
  have hqq : 0 < q * q' := Int.mul_pos hq hq'
  have hs : (q * q').natAbs < 4611686018427387904 := by
    rw [Int.natAbs_mul]
    exact Nat.lt_of_lt_of_le (Nat.mul_lt_mul'' (show q.natAbs < 2147483648 by omega) (show q'.natAbs < 2147483648 by omega)) (by decide)
  refine rsub_eq (a := (p, q)) (b := (p', q')) ?_
  unfold rsubP
  have s1 : small p = true := small_of (by have := small_lt'.mp ta; omega)
  have s2 : small q = true := small_of (by omega)
  have s3 : small p' = true := small_of (by have := small_lt'.mp tb; omega)
  simp only [s1, s2, s3, Bool.and_self]
  rw [ratP_nf hqq hs, ← nf_scale (Int.mul_pos hg hg') hqq, Int.mul_sub, show g * g' * (p * q') = (g * p) * (g' * q') by ac_rfl, show g * g' * (p' * q) = (g' * p') * (g * q) by ac_rfl,
    show g * g' * (q * q') = (g * q) * (g' * q') by ac_rfl, ← ha, ← hb', ← hd', ← hl']
/-- one entry of a row from which a row is taken off -/
theorem off_nf {m d x s l : Int} (hd : 0 < d) (hl : 0 < l) (tm : small m = true) (tx : small x = true) (ts : small (x * s) = true) (td : tiny d = true) (tl : tiny l = true) (tdl : tiny (d * l) = true) :
    ∃ y, rmulF [qD (nf x d), qD (nf s l)] σ = some (y, σ) ∧ rsubF [qD (nf m d), y] σ = some (qD (nf (m * l - x * s) (d * l)), σ) := by
  refine ⟨_, rmul_nf hd hl tx td tl, ?_⟩
  have hdl := Int.mul_pos hd hl
  rw [rsub_nf hd hdl tm ts td tdl]
  have : nf (m * (d * l) - x * s * d) (d * (d * l)) = nf (m * l - x * s) (d * l) := by
    rw [← nf_scale hd hdl, Int.mul_sub, show d * (m * l) = m * (d * l) by ac_rfl, show d * (x * s) = x * s * d by ac_rfl]
  rw [this]
end
end Mine
-- H3
set_option maxHeartbeats 1000000
namespace Mine
open PySem
-- what a freeze leaves as it is
noncomputable def nr : Nat → D → Bool
  | 0, _ => false
  | f + 1, d => match d with
    | .tup l => l.all (nr f)
    | .lst l => l.all (nr f)
    | .scr _ => false
    | .ref _ => false
    | _ => true
theorem omap_self {α : Type} {f : α → Option α} : ∀ {l : List α}, (∀ a ∈ l, f a = some a) → omap f l = some l
  | [], _ => rfl
  | a :: l, h => by
    unfold omap; rw [h a (.head _), omap_self fun b hb => h b (.tail _ hb)]; rfl
theorem frz_nr {σ : Sto} {n : Nat} : ∀ {f : Nat} {d : D}, nr f d = true → frz f σ n d = some d
  | 0, d, h => by cases h
  | f + 1, d, h => by
    unfold nr at h
    unfold frz
    cases d with
    | tup l => dsimp only at h ⊢; rw [omap_self fun a ha => frz_nr (List.all_eq_true.mp h a ha)]; rfl
    | lst l => dsimp only at h ⊢; rw [omap_self fun a ha => frz_nr (List.all_eq_true.mp h a ha)]; rfl
    | scr l => cases h
    | ref k => cases h
    | _ => rfl
noncomputable def Inv (σ : Sto) : Prop := ∀ l ∈ σ, ∀ d ∈ l, nr 8 d = true
theorem finish_inv {σ τ : Sto} {d d' : D} (I : Inv σ) (ht : τ ≠ []) (h : frz 8 (σ ++ τ) σ.length d = some d') : finish σ.length d (σ ++ τ) = some (d', σ) := by
  unfold finish
  rw [if_neg (by rw [List.length_append]; have := List.length_pos_iff.mpr ht; omega), h]
  simp only [Option.bind_some, List.take_left']
  rw [omap_self fun l hl => omap_self fun d hd => frz_nr (I l hl d hd)]; rfl
noncomputable def nD (n : Nat) : D := .int (n : Int)
theorem rngL_eq (a b : Nat) : rngL a b = (List.range' a (b - a)).map nD := by
  unfold rngL
  rw [show ((b : Int) - (a : Int)).toNat = b - a by omega, List.range'_eq_map_range, List.map_map]
  refine List.map_congr_left fun i _ => ?_
  show D.int ((a : Int) + (i : Int)) = D.int ((a + i : Nat) : Int)
  rw [Int.natCast_add]
noncomputable abbrev IRow := Int × List Int
noncomputable def nfL (d : Int) (l : List Int) : List D := l.map fun t => qD (nf t d)
noncomputable def nfRow (r : IRow) : D := .lst (nfL r.1 r.2)
noncomputable def rowI (l x : Int) : List Int → List Int → List Int
  | m :: ms, s :: ps => (m * l - x * s) :: rowI l x ms ps
  | _, _ => []
noncomputable def okRow (l x : Int) : List Int → List Int → Bool
  | _ :: ms, s :: ps => small (x * s) && okRow l x ms ps
  | [], [] => true
  | _, _ => false
noncomputable def isZ (i : Int) : Bool := match i with | .ofNat 0 => true | _ => false
theorem isZ_iff {i : Int} : isZ i = true ↔ i = 0 := by
  constructor
  · intro h; unfold isZ at h; split at h
    · rfl
    · cases h
  · rintro rfl; rfl
noncomputable def offI1 (l : Int) (ps : List Int) (c : Nat) (r : IRow) : Option IRow := (r.2[c]?).bind fun x => match isZ x with
  | true => some r
  | false => match tiny (r.1 * l) && okRow l x r.2 ps && (rowI l x r.2 ps).all small with
    | true => some (r.1 * l, rowI l x r.2 ps)
    | false => none
noncomputable def offI (c : Nat) (l : Int) (ps : List Int) : Nat → List IRow → Option (List IRow)
  | _, [] => some []
  | i, r :: rest => (match Nat.beq i c with | true => some r | false => offI1 l ps c r).bind fun r' => (offI c l ps (i + 1) rest).bind fun m => some (r' :: m)
noncomputable def stepI (c : Nat) (rows : List IRow) : Option (List IRow) := (rows[c]?).bind fun r => (r.2[c]?).bind fun l => match isPos l && tiny l with
  | true => offI c l r.2 0 (rows.set c (l, r.2))
  | false => none
noncomputable def echI : Nat → Nat → List IRow → Option (List IRow)
  | 0, _, rows => some rows
  | k + 1, c, rows => (stepI c rows).bind fun rows' => echI k (c + 1) rows'
structure GoodR (w : Nat) (r : IRow) : Prop where
  pos : 0 < r.1
  tin : tiny r.1 = true
  sm : ∀ t ∈ r.2, small t = true
  len : r.2.length = w
noncomputable def goodR (w : Nat) (r : IRow) : Bool := isPos r.1 && tiny r.1 && r.2.all small && Nat.beq r.2.length w
theorem GoodR.of {w : Nat} {r : IRow} (h : goodR w r = true) : GoodR w r := by
  simp only [goodR, Bool.and_eq_true, List.all_eq_true] at h
  exact ⟨isPos_iff h.1.1.1, h.1.1.2, h.1.2, Nat.eq_of_beq_eq_true h.2⟩
-- the store of an echelon: the rows, the pivots
noncomputable def st (σ : Sto) (A B : List D) : Sto := σ ++ [A, B]
section
variable {σ : Sto} {A B A' B' : List D}
theorem st0 : (st σ A B)[σ.length]? = some A := by unfold st; rw [List.getElem?_append_right (Nat.le_refl _), Nat.sub_self]; rfl
theorem st1 : (st σ A B)[σ.length + 1]? = some B := by unfold st; rw [List.getElem?_append_right (by omega), show σ.length + 1 - σ.length = 1 by omega]; rfl
theorem st_set0 : (st σ A B).set σ.length A' = st σ A' B := by unfold st; rw [List.set_append_right _ _ (Nat.le_refl _), Nat.sub_self]; rfl
theorem st_set1 : (st σ A B).set (σ.length + 1) B' = st σ A B' := by unfold st; rw [List.set_append_right _ _ (by omega), show σ.length + 1 - σ.length = 1 by omega]; rfl
theorem smallN {n : Nat} (h : n ≤ 10000) : small (n : Int) = true := small_of (by omega)
theorem idxL_eq {l : List D} {n : Nat} {d : D} {σ : Sto} (h : l[n]? = some d) (hn : n ≤ 10000) : idxL l (n : Int) σ = some (d, σ) := by
  unfold idxL
  rw [decide_eq_true (Int.natCast_nonneg n), smallN hn]
  simp [h]
theorem idx_ref {k n : Nat} {σ : Sto} {l : List D} {d : D} (hk : σ[k]? = some l) (h : l[n]? = some d) (hn : n ≤ 10000) : idxD (.ref k) (nD n) σ = some (d, σ) := by
  show (σ[k]?).bind _ = _
  rw [hk]; exact idxL_eq h hn
theorem idx_lst {n : Nat} {σ : Sto} {l : List D} {d : D} (h : l[n]? = some d) (hn : n ≤ 10000) : idxD (.lst l) (nD n) σ = some (d, σ) := idxL_eq h hn
theorem c2_run {f : Op2} {x y : Cmd} {Γ : Gam} {p q d : D} {σ σ' : Sto} (hx : x Γ σ = some (p, σ)) (hy : y Γ σ = some (q, σ)) (h : f p q σ = some (d, σ')) : c2 f x y Γ σ = some (d, σ') := by
  unfold c2; rw [hx]; simp only [Option.bind_some]; rw [hy]; exact h
theorem c1_run {f : Op1} {x : Cmd} {Γ : Gam} {p d : D} {σ σ' : Sto} (hx : x Γ σ = some (p, σ)) (h : f p σ = some (d, σ')) : c1 f x Γ σ = some (d, σ') := by
  unfold c1; rw [hx]; exact h
theorem assign_run {x : Cmd} {t : TCmd} {Γ Γ' : Gam} {d : D} {σ σ' σ'' : Sto} (hx : x Γ σ = some (d, σ')) (ht : t d Γ σ' = some (Γ', σ'')) : sAssign x t Γ σ = some (.next, Γ', σ'') := by
  unfold sAssign; rw [hx]; simp only [Option.bind_some]; rw [ht]; rfl
theorem expr_run {x : Cmd} {Γ : Gam} {σ σ' : Sto} (hx : x Γ σ = some (.none, σ')) : sExpr x Γ σ = some (.next, Γ, σ') := by
  unfold sExpr; rw [hx]; rfl
theorem if_run {t : QCmd} {a b : SCmd} {Γ : Gam} {σ : Sto} {v : Bool} (h : t Γ σ = some (v, σ)) : sIf t a b Γ σ = if v then a Γ σ else b Γ σ := by
  unfold sIf; rw [h]; rfl
theorem qv_run {x : Cmd} {Γ : Gam} {σ : Sto} {b : Bool} (h : x Γ σ = some (.bool b, σ)) : qVal x Γ σ = some (b, σ) := by
  unfold qVal; rw [h]; rfl
theorem okN_of {l : List D} (h : l.length ≤ 10000) : okN l = true := Nat.ble_eq.mpr h
theorem len_ref {k : Nat} {σ : Sto} {l : List D} (hk : σ[k]? = some l) (hl : l.length ≤ 10000) : lenD (.ref k) σ = some (nD l.length, σ) := by
  show (σ[k]?).bind _ = _
  rw [hk]; show (if okN l then _ else _) = _
  rw [if_pos (okN_of hl)]; rfl
theorem len_lst {σ : Sto} {l : List D} (hl : l.length ≤ 10000) : lenD (.lst l) σ = some (nD l.length, σ) := by
  show (if okN l then _ else _) = _
  rw [if_pos (okN_of hl)]; rfl
theorem neR0 {σ : Sto} {t d : Int} (hd : 0 < d) : neD (qD (nf t d)) (.tup [.int 0, .int 1]) σ = some (.bool (!isZ t), σ) := by
  have : neD (qD (nf t d)) (.tup [.int 0, .int 1]) σ = some (.bool (!((nf t d).1 == 0 && ((nf t d).2 == 1 && true))), σ) := rfl
  rw [this]
  congr 4
  by_cases h : t = 0
  · have e := (nf_zero (t := t) hd).mpr h
    rw [e, isZ_iff.mpr h]; rfl
  · have e := mt (nf_zero (t := t) hd).mp h
    have hz : isZ t = false := by cases q : isZ t; rfl; exact absurd (isZ_iff.mp q) h
    rw [hz, Bool.eq_false_iff]
    intro q
    simp only [Bool.and_true, Bool.and_eq_true, beq_iff_eq] at q
    exact e (Prod.ext q.1 q.2)
end
end Mine
-- H4
set_option maxHeartbeats 1000000
namespace Mine
open PySem
theorem okRow_len {l x : Int} : ∀ {ms ps : List Int}, okRow l x ms ps = true → (rowI l x ms ps).length = ms.length ∧ ms.length = ps.length
  | [], [], _ => ⟨rfl, rfl⟩
  | m :: ms, s :: ps, h => by
    simp only [okRow, Bool.and_eq_true] at h
    obtain ⟨a, b⟩ := okRow_len h.2
    exact ⟨by simp [rowI, a], by simp [b]⟩
  | [], _ :: _, h => by cases h
  | _ :: _, [], h => by cases h
noncomputable def takeE : Cmd := cCall rsubF (cCons (cVar 2) (cCons (cCall rmulF (cCons (cVar 4) (cCons (c2 idxD (c2 idxD (cVar 3) (cVar 5)) (cVar 1)) cNil))) cNil))
section
variable {σ : Sto}
theorem take_comp {k c : Nat} {RS : List D} {PS : List Int} {l x d : Int} (hk : σ[k]? = some RS) (hc : RS[c]? = some (nfRow (l, PS))) (hcn : c ≤ 10000) (hPS : PS.length ≤ 10000)
    (hd : 0 < d) (hl : 0 < l) (tx : small x = true) (td : tiny d = true) (tl : tiny l = true) (tdl : tiny (d * l) = true) :
    ∀ (ms ps : List Int) (j : Nat) (e0 e1 e2 : Option D), PS.drop j = ps → (∀ t ∈ ms, small t = true) → okRow l x ms ps = true →
      ∃ Γ', compLL (tTup [tVar 1, tVar 2]) (fElt takeE) (enumL j (nfL d ms)) [e0, e1, e2, some (.ref k), some (qD (nf x d)), some (nD c)] σ = some (nfL (d * l) (rowI l x ms ps), Γ', σ)
  | [], [], j, e0, e1, e2, _, _, _ => ⟨_, rfl⟩
  | m :: ms, s :: ps, j, e0, e1, e2, hdr, hsm, hok => by
    simp only [okRow, Bool.and_eq_true] at hok
    have hj : PS[j]? = some s := by
      have := congrArg (fun l => l[0]?) hdr
      simpa using this
    have hj' : j < PS.length := (List.getElem?_eq_some_iff.mp hj).1
    have hdr' : PS.drop (j + 1) = ps := by
      rw [← List.tail_drop, hdr]; rfl
    obtain ⟨Γ', ih⟩ := take_comp hk hc hcn hPS hd hl tx td tl tdl ms ps (j + 1) e0 (some (nD j)) (some (qD (nf m d))) hdr' (fun t ht => hsm t (.tail _ ht)) hok.2
    obtain ⟨y, h1, h2⟩ := off_nf (σ := σ) (s := s) hd hl (hsm m (.head _)) tx hok.1 td tl tdl
    refine ⟨Γ', ?_⟩
    have hidx : c2 idxD (c2 idxD (cVar 3) (cVar 5)) (cVar 1) [e0, some (nD j), some (qD (nf m d)), some (.ref k), some (qD (nf x d)), some (nD c)] σ = some (qD (nf s l), σ) :=
      c2_run (c2_run rfl rfl (idx_ref hk hc hcn)) rfl (idx_lst (by unfold nfL; rw [List.getElem?_map, hj]; rfl) (by omega))
    have hE : takeE [e0, some (nD j), some (qD (nf m d)), some (.ref k), some (qD (nf x d)), some (nD c)] σ = some (qD (nf (m * l - x * s) (d * l)), σ) :=
      call2_run rfl (call2_run rfl hidx h1) h2
    show (compLL _ _ (.tup [nD j, qD (nf m d)] :: enumL (j + 1) (nfL d ms)) _ σ) = _
    unfold compLL
    have ht : tTup [tVar 1, tVar 2] (.tup [nD j, qD (nf m d)]) [e0, e1, e2, some (.ref k), some (qD (nf x d)), some (nD c)] σ = some ([e0, some (nD j), some (qD (nf m d)), some (.ref k), some (qD (nf x d)), some (nD c)], σ) := rfl
    rw [ht]
    simp only [Option.bind_some]
    unfold fElt
    rw [hE]
    simp only [Option.map_some, Option.bind_some]
    unfold fElt at ih
    rw [ih]; rfl
  | [], _ :: _, _, _, _, _, _, _, h => by cases h
  | _ :: _, [], _, _, _, _, _, _, h => by cases h
theorem finish_ref {d : D} {σ σ' : Sto} (h : σ'.length = σ.length) : finish σ.length d σ' = some (d, σ') := finish_same h
theorem setD_eq {k i : Nat} {σ : Sto} {l : List D} {d : D} (hk : σ[k]? = some l) (hi : i < l.length) (hs : i ≤ 10000) : setD (.ref k) (nD i) d σ = some (σ.set k (l.set i d)) := by
  show (σ[k]?).bind _ = _
  rw [hk]
  have h2 : Nat.blt i l.length = true := Nat.blt_eq.mpr hi
  show (if decide (0 ≤ (i : Int)) && Nat.blt i l.length && small (i : Int) then _ else none) = _
  rw [decide_eq_true (Int.natCast_nonneg i), h2, smallN hs]; rfl
theorem take_off_eq {k c i : Nat} {RS : List D} {PS : List Int} {l x : Int} {r : IRow} {w : Nat} (hk : σ[k]? = some RS) (hc : RS[c]? = some (nfRow (l, PS))) (hi : RS[i]? = some (nfRow r)) (hcn : c ≤ 10000) (hin : i ≤ 10000) (hPS : PS.length ≤ 10000)
    (G : GoodR w r) (hl : 0 < l) (tx : small x = true) (tl : tiny l = true) (tdl : tiny (r.1 * l) = true) (hok : okRow l x r.2 PS = true) :
    take_offF [.ref k, nD i, nD c, qD (nf x r.1)] σ = some (.none, σ.set k (RS.set i (nfRow (r.1 * l, rowI l x r.2 PS)))) := by
  obtain ⟨Γ', h⟩ := take_comp (σ := σ) hk hc hcn hPS G.pos hl tx G.tin tl tdl r.2 PS 0 none none none rfl G.sm hok
  have hlen := okRow_len hok
  have hil : i < RS.length := (List.getElem?_eq_some_iff.mp hi).1
  have h1 : iEnm (c2 idxD (cVar 0) (cVar 1)) [some (.ref k), some (nD i), some (nD c), some (qD (nf x r.1))] σ = some (enumL 0 (nfL r.1 r.2), σ) := by
    have : c2 idxD (cVar 0) (cVar 1) [some (.ref k), some (nD i), some (nD c), some (qD (nf x r.1))] σ = some (nfRow r, σ) := c2_run rfl rfl (idx_ref hk hi hin)
    unfold iEnm; rw [this]; rfl
  have h2 : cComp [none, none, none, some 0, some 3, some 2] (iEnm (c2 idxD (cVar 0) (cVar 1))) (tTup [(tVar 1), (tVar 2)]) (fElt takeE) [some (.ref k), some (nD i), some (nD c), some (qD (nf x r.1))] σ =
      some (nfRow (r.1 * l, rowI l x r.2 PS), σ) := by
    unfold cComp; rw [h1]
    simp only [Option.bind_some]
    have hg : gamOf [none, none, none, some 0, some 3, some 2] [some (.ref k), some (nD i), some (nD c), some (qD (nf x r.1))] = [none, none, none, some (.ref k), some (qD (nf x r.1)), some (nD c)] := rfl
    rw [hg, h]
    simp only [Option.bind_some]
    rw [if_pos (okN_of (by unfold nfL; rw [List.length_map]; omega))]; rfl
  refine mkFn_end (Γ' := [some (.ref k), some (nD i), some (nD c), some (qD (nf x r.1))]) rfl ?_ (finish_same (by rw [List.length_set]))
  refine (bCons_next (assign_run h2 (Γ' := [some (.ref k), some (nD i), some (nD c), some (qD (nf x r.1))]) (σ'' := σ.set k (RS.set i (nfRow (r.1 * l, rowI l x r.2 PS)))) ?_)).trans rfl
  show (setD (.ref k) (nD i) _ σ).map _ = _
  rw [setD_eq hk hil hin]; rfl
theorem swap_eq {k c : Nat} {RS : List D} {d : D} (hk : σ[k]? = some RS) (hc : RS[c]? = some d) (hcn : c ≤ 10000) : swap_rowsF [.ref k, nD c, nD c] σ = some (.none, σ) := by
  have hcl : c < RS.length := (List.getElem?_eq_some_iff.mp hc).1
  have hkl : k < σ.length := (List.getElem?_eq_some_iff.mp hk).1
  have i1 : c2 idxD (cVar 0) (cVar 2) [some (.ref k), some (nD c), some (nD c)] σ = some (d, σ) := c2_run rfl rfl (idx_ref hk hc hcn)
  have i2 : c2 idxD (cVar 0) (cVar 1) [some (.ref k), some (nD c), some (nD c)] σ = some (d, σ) := c2_run rfl rfl (idx_ref hk hc hcn)
  have e1 : RS.set c d = RS := by
    refine List.ext_getElem? fun i => ?_
    by_cases h : c = i
    · subst h; rw [List.getElem?_set_self hcl, hc]
    · rw [List.getElem?_set_ne h]
  have e2 : σ.set k RS = σ := by
    refine List.ext_getElem? fun i => ?_
    by_cases h : k = i
    · subst h; rw [List.getElem?_set_self hkl, hk]
    · rw [List.getElem?_set_ne h]
  refine mkFn_end (Γ' := [some (.ref k), some (nD c), some (nD c)]) rfl ?_ finish_self
  have t1 : setD (.ref k) (nD c) d σ = some σ := by rw [setD_eq hk hcl hcn, e1, e2]
  have tt : cTup (cCons (c2 idxD (cVar 0) (cVar 2)) (cCons (c2 idxD (cVar 0) (cVar 1)) cNil)) [some (.ref k), some (nD c), some (nD c)] σ = some (.tup [d, d], σ) := by
    unfold cTup cCons; rw [i1]; simp only [Option.bind_some]; rw [i2]; rfl
  refine (bCons_next (assign_run tt (Γ' := [some (.ref k), some (nD c), some (nD c)]) (σ'' := σ) ?_)).trans rfl
  show tAll [tSub (cVar 0) (cVar 1), tSub (cVar 0) (cVar 2)] [d, d] _ σ = _
  have s1 : tSub (cVar 0) (cVar 1) d [some (.ref k), some (nD c), some (nD c)] σ = some ([some (.ref k), some (nD c), some (nD c)], σ) := by
    show (setD (.ref k) (nD c) d σ).map _ = _
    rw [t1]; rfl
  have s2 : tSub (cVar 0) (cVar 2) d [some (.ref k), some (nD c), some (nD c)] σ = some ([some (.ref k), some (nD c), some (nD c)], σ) := by
    show (setD (.ref k) (nD c) d σ).map _ = _
    rw [t1]; rfl
  unfold tAll; rw [s1]
  simp only [Option.bind_some]
  unfold tAll; rw [s2]; rfl
end
end Mine
-- H5
set_option maxHeartbeats 1000000
namespace Mine
open PySem
theorem forL_next {t : TCmd} {b : SCmd} {d : D} {ds : List D} {Γ Γ₁ Γ₂ : Gam} {σ σ₁ σ₂ : Sto} (h1 : t d Γ σ = some (Γ₁, σ₁)) (h2 : b Γ₁ σ₁ = some (.next, Γ₂, σ₂)) : forL t b (d :: ds) Γ σ = forL t b ds Γ₂ σ₂ := by
  rw [forL, h1]; simp only [Option.bind_some]; rw [h2]; rfl
theorem forL_cont {t : TCmd} {b : SCmd} {d : D} {ds : List D} {Γ Γ₁ Γ₂ : Gam} {σ σ₁ σ₂ : Sto} (h1 : t d Γ σ = some (Γ₁, σ₁)) (h2 : b Γ₁ σ₁ = some (.cont, Γ₂, σ₂)) : forL t b (d :: ds) Γ σ = forL t b ds Γ₂ σ₂ := by
  rw [forL, h1]; simp only [Option.bind_some]; rw [h2]; rfl
theorem cons_run {x : Cmd} {y : LCmd} {Γ : Gam} {σ : Sto} {d : D} {ds : List D} (hx : x Γ σ = some (d, σ)) (hy : y Γ σ = some (ds, σ)) : cCons x y Γ σ = some (d :: ds, σ) := by
  unfold cCons; rw [hx]; simp only [Option.bind_some]; rw [hy]; rfl
theorem call_run {F : Fn} {a : LCmd} {Γ : Gam} {σ : Sto} {ds : List D} {r} (ha : a Γ σ = some (ds, σ)) (h : F ds σ = r) : cCall F a Γ σ = r := by
  unfold cCall; rw [ha]; exact h
noncomputable def spotQ : QCmd := qVal (c2 neD (c2 idxD (c2 idxD (cVar 3) (cVar 1)) (cVar 2)) (cK (.tup [.int 0, .int 1])))
theorem idx_row {k i c : Nat} {σ : Sto} {rows : List IRow} {r : IRow} {x : Int} {w : Nat} {Γ : Gam} {a b e : Cmd} (hk : σ[k]? = some (rows.map nfRow)) (hi : rows[i]? = some r) (hx : r.2[c]? = some x) (hin : i ≤ 10000) (hcn : c ≤ 10000)
    (ha : a Γ σ = some (.ref k, σ)) (hb : b Γ σ = some (nD i, σ)) (he : e Γ σ = some (nD c, σ)) : c2 idxD (c2 idxD a b) e Γ σ = some (qD (nf x r.1), σ) :=
  c2_run (c2_run ha hb (idx_ref hk (by rw [List.getElem?_map, hi]; rfl) hin)) he (idx_lst (by unfold nfL; rw [List.getElem?_map, hx]; rfl) hcn)
theorem spots_comp {k c w : Nat} {σ : Sto} {rows : List IRow} (hk : σ[k]? = some (rows.map nfRow)) (G : ∀ r ∈ rows, GoodR w r) (hcw : c < w) (hw : w ≤ 10000) (hn : rows.length ≤ 10000) :
    ∀ (j i : Nat) (e0 e1 : Option D), i + j ≤ rows.length → ∃ Γ' ls, compLL (tVar 1) (fIf spotQ (cVar 1)) ((List.range' i j).map nD) [e0, e1, some (nD c), some (.ref k)] σ = some (ls, Γ', σ) ∧ ls.length ≤ j ∧
      (∀ r x, 0 < j → rows[i]? = some r → r.2[c]? = some x → isZ x = false → ∃ t, ls = nD i :: t)
  | 0, i, e0, e1, _ => ⟨_, [], rfl, Nat.le_refl _, fun r x h => absurd h (Nat.lt_irrefl _)⟩
  | j + 1, i, e0, e1, hj => by
    have hil : i < rows.length := by omega
    obtain ⟨r, hr⟩ : ∃ r, rows[i]? = some r := ⟨_, List.getElem?_eq_getElem hil⟩
    have Gr := G r (List.mem_of_getElem? hr)
    obtain ⟨x, hx⟩ : ∃ x, r.2[c]? = some x := ⟨_, List.getElem?_eq_getElem (by rw [Gr.len]; exact hcw)⟩
    obtain ⟨Γ', ls, h1, h2, _⟩ := spots_comp hk G hcw hw hn j (i + 1) e0 (some (nD i)) (by omega)
    have hq : spotQ [e0, some (nD i), some (nD c), some (.ref k)] σ = some (!isZ x, σ) := qv_run (c2_run (idx_row (w := w) hk hr hx (by omega) (by omega) rfl rfl rfl) rfl (neR0 Gr.pos))
    have ht : tVar 1 (nD i) [e0, e1, some (nD c), some (.ref k)] σ = some ([e0, some (nD i), some (nD c), some (.ref k)], σ) := rfl
    rw [show (List.range' i (j + 1)).map nD = nD i :: (List.range' (i + 1) j).map nD from rfl]
    cases hz : isZ x with
    | true =>
      refine ⟨Γ', ls, ?_, by omega, fun r' x' _ hr' hx' hz' => ?_⟩
      · rw [compLL, ht]
        simp only [Option.bind_some]
        unfold fIf
        rw [hq, hz]
        simp only [Option.bind_some]
        unfold fIf at h1
        rw [show (!true) = false from rfl]
        simp only [Bool.false_eq_true, if_false, Option.bind_some]
        rw [h1]; rfl
      · rw [hr] at hr'; cases hr'; rw [hx] at hx'; cases hx'; rw [hz] at hz'; cases hz'
    | false =>
      refine ⟨Γ', nD i :: ls, ?_, by simp; omega, fun r' x' _ _ _ _ => ⟨ls, rfl⟩⟩
      rw [compLL, ht]
      simp only [Option.bind_some]
      unfold fIf
      rw [hq, hz]
      simp only [Option.bind_some]
      unfold fIf at h1
      rw [show (!false) = true from rfl]
      simp only [if_true]
      rw [show cVar 1 [e0, some (nD i), some (nD c), some (.ref k)] σ = some (nD i, σ) from rfl]
      simp only [Option.map_some, Option.bind_some]
      rw [h1]; rfl
theorem div_comp {σ : Sto} {d l : Int} (hd : 0 < d) (hl : 0 < l) (td : tiny d = true) (tl : tiny l = true) : ∀ (ms : List Int) (e0 e1 : Option D), (∀ t ∈ ms, small t = true) →
    ∃ Γ', compLL (tVar 1) (fElt (cCall rdivF (cCons (cVar 1) (cCons (cVar 2) cNil)))) (nfL d ms) [e0, e1, some (qD (nf l d))] σ = some (nfL l ms, Γ', σ)
  | [], e0, e1, _ => ⟨_, rfl⟩
  | m :: ms, e0, e1, h => by
    obtain ⟨Γ', ih⟩ := div_comp (σ := σ) hd hl td tl ms e0 (some (qD (nf m d))) (fun t ht => h t (.tail _ ht))
    refine ⟨Γ', ?_⟩
    show compLL _ _ (qD (nf m d) :: nfL d ms) _ σ = _
    have ht : tVar 1 (qD (nf m d)) [e0, e1, some (qD (nf l d))] σ = some ([e0, some (qD (nf m d)), some (qD (nf l d))], σ) := rfl
    have hE : cCall rdivF (cCons (cVar 1) (cCons (cVar 2) cNil)) [e0, some (qD (nf m d)), some (qD (nf l d))] σ = some (qD (nf m l), σ) := call2_run rfl rfl (rdiv_nf hd hl (h m (.head _)) tl td)
    rw [compLL, ht]
    simp only [Option.bind_some]
    unfold fElt
    rw [hE]
    simp only [Option.map_some, Option.bind_some]
    unfold fElt at ih
    rw [ih]; rfl
noncomputable def innerT : Cmd := cCall take_offF (cCons (cVar 1) (cCons (cVar 7) (cCons (cVar 4) (cCons (c2 idxD (c2 idxD (cVar 1) (cVar 7)) (cVar 3)) cNil))))
noncomputable def innerQ : QCmd := qAnd (qVal (c2 neD (cVar 7) (cVar 4))) (qVal (c2 neD (c2 idxD (c2 idxD (cVar 1) (cVar 7)) (cVar 3)) (cK (.tup [.int 0, .int 1]))))
noncomputable def innerB : SCmd := bCons (sIf innerQ (bCons (sExpr innerT) bNil) bNil) bNil
theorem inner_run {σ : Sto} {B : List D} {c w : Nat} {l : Int} {PS : List Int} {a b2 sp ld : Option D} (hl : 0 < l) (tl : tiny l = true) (hcn : c < w) (hw : w ≤ 10000) (hPS : PS.length ≤ 10000) :
    ∀ (rest rest' done : List IRow) (i : Nat) (e7 : Option D), done.length = i → i + rest.length ≤ 10000 → offI c l PS i rest = some rest' → (∀ r ∈ rest, GoodR w r) → (done ++ rest)[c]? = some (l, PS) →
      ∃ e7', forL (tVar 7) innerB ((List.range' i rest.length).map nD) [a, some (.ref σ.length), b2, some (nD c), some (nD c), sp, ld, e7] (st σ ((done ++ rest).map nfRow) B) =
        some (.next, [a, some (.ref σ.length), b2, some (nD c), some (nD c), sp, ld, e7'], st σ ((done ++ rest').map nfRow) B) ∧ (∀ r ∈ rest', GoodR w r) ∧ rest'.length = rest.length
  | [], rest', done, i, e7, hi, hlen, ho, G, hc => by
    cases ho
    exact ⟨e7, rfl, G, rfl⟩
  | r :: rest, rest', done, i, e7, hi, hlen, ho, G, hc => by
    rw [List.length_cons] at hlen
    have hri : (done ++ r :: rest)[i]? = some r := by rw [List.getElem?_append_right (by omega), hi, Nat.sub_self]; rfl
    have Gr := G r (.head _)
    obtain ⟨x, hx⟩ : ∃ x, r.2[c]? = some x := ⟨_, List.getElem?_eq_getElem (by rw [Gr.len]; exact hcn)⟩
    have hk : (st σ ((done ++ r :: rest).map nfRow) B)[σ.length]? = some ((done ++ r :: rest).map nfRow) := st0
    have ht : tVar 7 (nD i) [a, some (.ref σ.length), b2, some (nD c), some (nD c), sp, ld, e7] (st σ ((done ++ r :: rest).map nfRow) B) =
      some ([a, some (.ref σ.length), b2, some (nD c), some (nD c), sp, ld, some (nD i)], st σ ((done ++ r :: rest).map nfRow) B) := rfl
    have hrg : (List.range' i (r :: rest).length).map nD = nD i :: (List.range' (i + 1) rest.length).map nD := rfl
    have hQ : innerQ [a, some (.ref σ.length), b2, some (nD c), some (nD c), sp, ld, some (nD i)] (st σ ((done ++ r :: rest).map nfRow) B) = some (!(Nat.beq i c) && !isZ x, st σ ((done ++ r :: rest).map nfRow) B) := by
      have q1 : qVal (c2 neD (cVar 7) (cVar 4)) [a, some (.ref σ.length), b2, some (nD c), some (nD c), sp, ld, some (nD i)] (st σ ((done ++ r :: rest).map nfRow) B) = some (!(Nat.beq i c), st σ ((done ++ r :: rest).map nfRow) B) := by
        refine qv_run (c2_run rfl rfl ?_)
        show some (D.bool ((i : Int) != (c : Int)), _) = _
        congr 3
        cases hb : Nat.beq i c with
        | true => rw [Nat.eq_of_beq_eq_true hb]; simp
        | false =>
          have : i ≠ c := Nat.ne_of_beq_eq_false hb
          have h' : (i : Int) ≠ (c : Int) := by omega
          simp [h']
      have q2 := qv_run (c2_run (f := neD) (idx_row (w := w) (Γ := [a, some (.ref σ.length), b2, some (nD c), some (nD c), sp, ld, some (nD i)]) (a := cVar 1) (b := cVar 7) (e := cVar 3) hk hri hx (by omega) (by omega) rfl rfl rfl) (show cK (.tup [.int 0, .int 1]) _ _ = some (_, _) from rfl) (neR0 Gr.pos))
      unfold innerQ qAnd
      rw [q1]
      simp only [Option.bind_some]
      cases Nat.beq i c with
      | true => rfl
      | false => simp only [Bool.not_false, if_true, Bool.true_and]; exact q2
    rw [offI] at ho
    have step : ∀ r', (∀ A', A' = (done ++ r' :: rest).map nfRow → innerB [a, some (.ref σ.length), b2, some (nD c), some (nD c), sp, ld, some (nD i)] (st σ ((done ++ r :: rest).map nfRow) B) =
          some (.next, [a, some (.ref σ.length), b2, some (nD c), some (nD c), sp, ld, some (nD i)], st σ A' B)) → GoodR w r' → (i = c → r' = r) →
        ∀ m, offI c l PS (i + 1) rest = some m → rest' = r' :: m → ∃ e7', forL (tVar 7) innerB ((List.range' i (r :: rest).length).map nD) [a, some (.ref σ.length), b2, some (nD c), some (nD c), sp, ld, e7] (st σ ((done ++ r :: rest).map nfRow) B) =
        some (.next, [a, some (.ref σ.length), b2, some (nD c), some (nD c), sp, ld, e7'], st σ ((done ++ rest').map nfRow) B) ∧ (∀ r ∈ rest', GoodR w r) ∧ rest'.length = (r :: rest).length := by
      intro r' hb Gr' hrc m hm e
      subst e
      have hc' : ((done ++ [r']) ++ rest)[c]? = some (l, PS) := by
        rw [List.append_assoc]
        by_cases h : i = c
        · rw [hrc h]; exact hc
        · rw [← hc]
          show (done ++ (r' :: rest))[c]? = (done ++ (r :: rest))[c]?
          by_cases h2 : c < done.length
          · rw [List.getElem?_append_left h2, List.getElem?_append_left h2]
          · rw [List.getElem?_append_right (by omega), List.getElem?_append_right (by omega)]
            obtain ⟨n, hn⟩ : ∃ n, c - done.length = n + 1 := ⟨c - done.length - 1, by omega⟩
            rw [hn]; rfl
      obtain ⟨e7', h1, h2, h3⟩ := inner_run (σ := σ) (B := B) (a := a) (b2 := b2) (sp := sp) (ld := ld) hl tl hcn hw hPS rest m (done ++ [r']) (i + 1) (some (nD i)) (by simp [hi]) (by omega) hm (fun q hq => G q (.tail _ hq)) hc'
      refine ⟨e7', ?_, ?_, by simp [h3]⟩
      · rw [hrg, forL_next ht (hb _ rfl)]
        rw [List.append_assoc, List.append_assoc] at h1
        exact h1
      · intro q hq
        rcases List.mem_cons.mp hq with rfl | hq
        · exact Gr'
        · exact h2 q hq
    cases hb : Nat.beq i c with
    | true =>
      rw [hb] at ho
      simp only [Option.bind_some, Option.bind_eq_some_iff] at ho
      obtain ⟨m, hm, e⟩ := ho
      cases e
      refine step r (fun A' e => ?_) Gr (fun _ => rfl) m hm rfl
      subst e
      unfold innerB
      refine (bCons_next ?_).trans rfl
      rw [if_run hQ, hb]; rfl
    | false =>
      rw [hb] at ho
      simp only [Option.bind_eq_some_iff] at ho
      obtain ⟨r', hr', m, hm, e⟩ := ho
      cases e
      simp only [offI1, Option.bind_eq_some_iff] at hr'
      obtain ⟨x', hx', hr'⟩ := hr'
      rw [hx] at hx'; cases hx'
      have hic : i ≠ c := Nat.ne_of_beq_eq_false hb
      cases hz : isZ x with
      | true =>
        rw [hz] at hr'; cases hr'
        refine step r (fun A' e => ?_) Gr (fun h => absurd h hic) m hm rfl
        subst e
        unfold innerB
        refine (bCons_next ?_).trans rfl
        rw [if_run hQ, hb, hz]; rfl
      | false =>
        rw [hz] at hr'
        dsimp only at hr'
        split at hr'
        · rename_i hg
          cases hr'
          simp only [Bool.and_eq_true, List.all_eq_true] at hg
          obtain ⟨⟨g1, g2⟩, g3⟩ := hg
          have hlen2 := okRow_len g2
          refine step (r.1 * l, rowI l x r.2 PS) (fun A' e => ?_) ⟨Int.mul_pos Gr.pos hl, g1, g3, by rw [hlen2.1]; exact Gr.len⟩ (fun h => absurd h hic) m hm rfl
          subst e
          have hc2 : ((done ++ r :: rest).map nfRow)[c]? = some (nfRow (l, PS)) := by rw [List.getElem?_map, hc]; rfl
          have hi2 : ((done ++ r :: rest).map nfRow)[i]? = some (nfRow r) := by rw [List.getElem?_map, hri]; rfl
          have tk := take_off_eq (σ := st σ ((done ++ r :: rest).map nfRow) B) hk hc2 hi2 (by omega) (by omega) hPS Gr hl (Gr.sm x (List.mem_of_getElem? hx)) tl g1 g2
          have hset : ((done ++ r :: rest).map nfRow).set i (nfRow (r.1 * l, rowI l x r.2 PS)) = (done ++ (r.1 * l, rowI l x r.2 PS) :: rest).map nfRow := by
            rw [← List.map_set, List.set_append_right _ _ (by omega), hi, Nat.sub_self]; rfl
          rw [hset, st_set0] at tk
          have hcall : innerT [a, some (.ref σ.length), b2, some (nD c), some (nD c), sp, ld, some (nD i)] (st σ ((done ++ r :: rest).map nfRow) B) = some (.none, st σ ((done ++ (r.1 * l, rowI l x r.2 PS) :: rest).map nfRow) B) := by
            have hix := idx_row (w := w) (Γ := [a, some (.ref σ.length), b2, some (nD c), some (nD c), sp, ld, some (nD i)]) (a := cVar 1) (b := cVar 7) (e := cVar 3) hk hri hx (by omega) (by omega) rfl rfl rfl
            exact call_run (cons_run rfl (cons_run rfl (cons_run rfl (cons_run hix rfl)))) tk
          unfold innerB
          refine (bCons_next ?_).trans rfl
          rw [if_run hQ, hb, hz]
          exact (bCons_next (expr_run hcall)).trans rfl
        · cases hr'
end Mine
-- H6
set_option maxHeartbeats 1000000
namespace Mine
open PySem
noncomputable def pivs (c : Nat) : List D := (List.range c).map nD
theorem pivs_len (c : Nat) : (pivs c).length = c := by unfold pivs; simp
theorem pivs_succ (c : Nat) : pivs c ++ [nD c] = pivs (c + 1) := by unfold pivs; rw [List.range_succ]; simp
noncomputable def eSpots : Cmd := cComp [none, none, some 3, some 1] (iRng2 (cVar 4) (c1 lenD (cVar 1))) (tVar 1) (fIf spotQ (cVar 1))
noncomputable def eSwap : Cmd := cCall swap_rowsF (cCons (cVar 1) (cCons (cVar 4) (cCons (c2 idxD (cVar 5) (cK (.int 0))) cNil)))
noncomputable def eDiv : Cmd := cComp [none, none, some 6] (iLst (c2 idxD (cVar 1) (cVar 4))) (tVar 1) (fElt (cCall rdivF (cCons (cVar 1) (cCons (cVar 2) cNil))))
noncomputable def eBody : SCmd := bCons (sAssign (c1 lenD (cVar 2)) (tVar 4)) (bCons (sAssign eSpots (tVar 5))
  (bCons (sIf (qVal (c2 eqD (c1 lenD (cVar 5)) (cK (.int 0)))) (bCons sCont bNil) bNil)
  (bCons (sExpr eSwap) (bCons (sAssign (c2 idxD (c2 idxD (cVar 1) (cVar 4)) (cVar 3)) (tVar 6))
  (bCons (sAssign eDiv (tSub (cVar 1) (cVar 4))) (bCons (sFor (iRng1 (c1 lenD (cVar 1))) (tVar 7) innerB) (bCons (sExpr (cApp (cVar 2) (cVar 3))) bNil)))))))
theorem c_echelon_eq : c_echelon = bCons (sAssign (cTup (cCons (cCall copiedF (cCons (cVar 0) cNil)) (cCons (cRef cNil) cNil))) (tTup [(tVar 1), (tVar 2)]))
  (bCons (sFor (iRng1 (c2 idxD (cCall shapeF (cCons (cVar 0) cNil)) (cK (.int 1)))) (tVar 3) eBody) (bCons (sRet (cTup (cCons (cVar 1) (cCons (cVar 2) cNil)))) bNil)) := rfl
section
variable {σ : Sto}
theorem rng2_run {x y : Cmd} {Γ : Gam} {σ : Sto} {a b : Nat} (hx : x Γ σ = some (nD a, σ)) (hy : y Γ σ = some (nD b, σ)) (ha : a ≤ 10000) (hb : b ≤ 10000) : iRng2 x y Γ σ = some ((List.range' a (b - a)).map nD, σ) := by
  unfold iRng2; rw [hx]; simp only [Option.bind_some]; rw [hy]
  show (if (a : Int).natAbs ≤ 10000 ∧ (b : Int).natAbs ≤ 10000 then _ else none) = _
  rw [if_pos ⟨by omega, by omega⟩, rngL_eq]
theorem rng1_run {x : Cmd} {Γ : Gam} {σ : Sto} {b : Nat} (hx : x Γ σ = some (nD b, σ)) (hb : b ≤ 10000) : iRng1 x Γ σ = some ((List.range' 0 b).map nD, σ) := by
  unfold iRng1; rw [hx]
  show (if (b : Int).natAbs ≤ 10000 then some (rngL ((0 : Nat) : Int) b, σ) else none) = _
  rw [if_pos (by omega), rngL_eq]; rfl
theorem pivot_body {c w : Nat} {rows rows' : List IRow} (h : stepI c rows = some rows') (G : ∀ r ∈ rows, GoodR w r) (hcw : c < w) (hw : w ≤ 10000) (hn : rows.length ≤ 10000) (a e4 e5 e6 e7 : Option D) :
    ∃ e4' e5' e6' e7', eBody [a, some (.ref σ.length), some (.ref (σ.length + 1)), some (nD c), e4, e5, e6, e7] (st σ (rows.map nfRow) (pivs c)) =
        some (.next, [a, some (.ref σ.length), some (.ref (σ.length + 1)), some (nD c), e4', e5', e6', e7'], st σ (rows'.map nfRow) (pivs (c + 1))) ∧ (∀ r ∈ rows', GoodR w r) ∧ rows'.length = rows.length := by
  simp only [stepI, Option.bind_eq_some_iff] at h
  obtain ⟨r, hr, l, hl, h⟩ := h
  split at h
  case h_2 => cases h
  rename_i hg
  simp only [Bool.and_eq_true] at hg
  have hl0 := isPos_iff hg.1
  have Gr := G r (List.mem_of_getElem? hr)
  have hcl : c < rows.length := (List.getElem?_eq_some_iff.mp hr).1
  have hc : c ≤ 10000 := by omega
  have hlz : isZ l = false := by cases q : isZ l; rfl; have := isZ_iff.mp q; omega
  -- 1
  have s1 : sAssign (c1 lenD (cVar 2)) (tVar 4) [a, some (.ref σ.length), some (.ref (σ.length + 1)), some (nD c), e4, e5, e6, e7] (st σ (rows.map nfRow) (pivs c)) =
      some (.next, [a, some (.ref σ.length), some (.ref (σ.length + 1)), some (nD c), some (nD c), e5, e6, e7], st σ (rows.map nfRow) (pivs c)) := by
    refine assign_run (d := nD c) (c1_run rfl ?_) rfl
    have := len_ref (σ := st σ (rows.map nfRow) (pivs c)) st1 (by rw [pivs_len]; exact hc)
    rwa [pivs_len] at this
  -- 2
  obtain ⟨Γs, ls, k1, k2, k3⟩ := spots_comp (σ := st σ (rows.map nfRow) (pivs c)) (c := c) st0 G hcw hw hn (rows.length - c) c none none (by omega)
  obtain ⟨tl, rfl⟩ := k3 r l (by omega) hr hl hlz
  have hlenr : c1 lenD (cVar 1) [a, some (.ref σ.length), some (.ref (σ.length + 1)), some (nD c), some (nD c), e5, e6, e7] (st σ (rows.map nfRow) (pivs c)) = some (nD rows.length, st σ (rows.map nfRow) (pivs c)) := by
    refine c1_run rfl ?_
    have := len_ref (σ := st σ (rows.map nfRow) (pivs c)) st0 (by rw [List.length_map]; exact hn)
    rwa [List.length_map] at this
  have s2 : sAssign eSpots (tVar 5) [a, some (.ref σ.length), some (.ref (σ.length + 1)), some (nD c), some (nD c), e5, e6, e7] (st σ (rows.map nfRow) (pivs c)) =
      some (.next, [a, some (.ref σ.length), some (.ref (σ.length + 1)), some (nD c), some (nD c), some (.lst (nD c :: tl)), e6, e7], st σ (rows.map nfRow) (pivs c)) := by
    refine assign_run (d := .lst (nD c :: tl)) ?_ rfl
    unfold eSpots cComp
    rw [rng2_run rfl hlenr hc hn]
    simp only [Option.bind_some]
    have hgm : gamOf [none, none, some 3, some 1] [a, some (.ref σ.length), some (.ref (σ.length + 1)), some (nD c), some (nD c), e5, e6, e7] = [none, none, some (nD c), some (.ref σ.length)] := rfl
    rw [hgm, k1]
    simp only [Option.bind_some]
    rw [if_pos (okN_of (by omega))]
  -- 3
  have s3 : sIf (qVal (c2 eqD (c1 lenD (cVar 5)) (cK (.int 0)))) (bCons sCont bNil) bNil [a, some (.ref σ.length), some (.ref (σ.length + 1)), some (nD c), some (nD c), some (.lst (nD c :: tl)), e6, e7] (st σ (rows.map nfRow) (pivs c)) =
      some (.next, [a, some (.ref σ.length), some (.ref (σ.length + 1)), some (nD c), some (nD c), some (.lst (nD c :: tl)), e6, e7], st σ (rows.map nfRow) (pivs c)) := by
    have : qVal (c2 eqD (c1 lenD (cVar 5)) (cK (.int 0))) [a, some (.ref σ.length), some (.ref (σ.length + 1)), some (nD c), some (nD c), some (.lst (nD c :: tl)), e6, e7] (st σ (rows.map nfRow) (pivs c)) = some (false, st σ (rows.map nfRow) (pivs c)) := by
      refine qv_run (c2_run (p := nD (tl.length + 1)) (q := .int 0) (c1_run rfl (len_lst (l := nD c :: tl) (by omega))) rfl ?_)
      show some (D.bool (((tl.length + 1 : Nat) : Int) == 0), _) = _
      have : (((tl.length + 1 : Nat) : Int) == 0) = false := by rw [beq_eq_false_iff_ne]; omega
      rw [this]
    rw [if_run this]; rfl
  -- 4
  have s4 : sExpr eSwap [a, some (.ref σ.length), some (.ref (σ.length + 1)), some (nD c), some (nD c), some (.lst (nD c :: tl)), e6, e7] (st σ (rows.map nfRow) (pivs c)) =
      some (.next, [a, some (.ref σ.length), some (.ref (σ.length + 1)), some (nD c), some (nD c), some (.lst (nD c :: tl)), e6, e7], st σ (rows.map nfRow) (pivs c)) := by
    refine expr_run ?_
    have hrow : (rows.map nfRow)[c]? = some (nfRow r) := by rw [List.getElem?_map, hr]; rfl
    have hix : c2 idxD (cVar 5) (cK (.int 0)) [a, some (.ref σ.length), some (.ref (σ.length + 1)), some (nD c), some (nD c), some (.lst (nD c :: tl)), e6, e7] (st σ (rows.map nfRow) (pivs c)) = some (nD c, st σ (rows.map nfRow) (pivs c)) :=
      c2_run rfl rfl (idx_lst (n := 0) rfl (by omega))
    exact call_run (cons_run rfl (cons_run rfl (cons_run hix rfl))) (swap_eq st0 hrow hc)
  -- 5
  have s5 : sAssign (c2 idxD (c2 idxD (cVar 1) (cVar 4)) (cVar 3)) (tVar 6) [a, some (.ref σ.length), some (.ref (σ.length + 1)), some (nD c), some (nD c), some (.lst (nD c :: tl)), e6, e7] (st σ (rows.map nfRow) (pivs c)) =
      some (.next, [a, some (.ref σ.length), some (.ref (σ.length + 1)), some (nD c), some (nD c), some (.lst (nD c :: tl)), some (qD (nf l r.1)), e7], st σ (rows.map nfRow) (pivs c)) :=
    assign_run (idx_row (w := w) st0 hr hl hc hc rfl rfl rfl) rfl
  -- 6
  obtain ⟨Γd, kd⟩ := div_comp (σ := st σ (rows.map nfRow) (pivs c)) Gr.pos hl0 Gr.tin hg.2 r.2 none none Gr.sm
  have hrowl : (rows.map nfRow)[c]? = some (nfRow r) := by rw [List.getElem?_map, hr]; rfl
  have s6 : sAssign eDiv (tSub (cVar 1) (cVar 4)) [a, some (.ref σ.length), some (.ref (σ.length + 1)), some (nD c), some (nD c), some (.lst (nD c :: tl)), some (qD (nf l r.1)), e7] (st σ (rows.map nfRow) (pivs c)) =
      some (.next, [a, some (.ref σ.length), some (.ref (σ.length + 1)), some (nD c), some (nD c), some (.lst (nD c :: tl)), some (qD (nf l r.1)), e7], st σ ((rows.set c (l, r.2)).map nfRow) (pivs c)) := by
    refine assign_run (d := nfRow (l, r.2)) (σ' := st σ (rows.map nfRow) (pivs c)) ?_ ?_
    · unfold eDiv cComp
      have : iLst (c2 idxD (cVar 1) (cVar 4)) [a, some (.ref σ.length), some (.ref (σ.length + 1)), some (nD c), some (nD c), some (.lst (nD c :: tl)), some (qD (nf l r.1)), e7] (st σ (rows.map nfRow) (pivs c)) = some (nfL r.1 r.2, st σ (rows.map nfRow) (pivs c)) := by
        have i := c2_run (f := idxD) (x := cVar 1) (y := cVar 4) (Γ := [a, some (.ref σ.length), some (.ref (σ.length + 1)), some (nD c), some (nD c), some (.lst (nD c :: tl)), some (qD (nf l r.1)), e7]) (σ := st σ (rows.map nfRow) (pivs c)) rfl rfl (idx_ref st0 hrowl hc)
        unfold iLst; rw [i]; rfl
      rw [this]
      simp only [Option.bind_some]
      have hgm : gamOf [none, none, some 6] [a, some (.ref σ.length), some (.ref (σ.length + 1)), some (nD c), some (nD c), some (.lst (nD c :: tl)), some (qD (nf l r.1)), e7] = [none, none, some (qD (nf l r.1))] := rfl
      rw [hgm, kd]
      simp only [Option.bind_some]
      rw [if_pos (okN_of (by unfold nfL; rw [List.length_map, Gr.len]; exact hw))]; rfl
    · show (setD (.ref σ.length) (nD c) (nfRow (l, r.2)) (st σ (rows.map nfRow) (pivs c))).map _ = _
      rw [setD_eq st0 (by rw [List.length_map]; exact hcl) hc, st_set0, ← List.map_set]; rfl
  -- 7
  have G1 : ∀ q ∈ rows.set c (l, r.2), GoodR w q := fun q hq => by
    rcases List.mem_or_eq_of_mem_set hq with hq | rfl
    · exact G q hq
    · exact ⟨hl0, hg.2, Gr.sm, Gr.len⟩
  obtain ⟨e7', h7, G2, len2⟩ := inner_run (σ := σ) (B := pivs c) (a := a) (b2 := some (.ref (σ.length + 1))) (sp := some (.lst (nD c :: tl))) (ld := some (qD (nf l r.1))) hl0 hg.2 hcw hw (by rw [Gr.len]; exact hw) (rows.set c (l, r.2)) rows' [] 0 e7 rfl
    (by rw [List.length_set]; omega) h G1 (by rw [List.nil_append, List.getElem?_set_self hcl])
  rw [List.length_set] at h7 len2
  have hlen2 : c1 lenD (cVar 1) [a, some (.ref σ.length), some (.ref (σ.length + 1)), some (nD c), some (nD c), some (.lst (nD c :: tl)), some (qD (nf l r.1)), e7] (st σ ((rows.set c (l, r.2)).map nfRow) (pivs c)) = some (nD rows.length, st σ ((rows.set c (l, r.2)).map nfRow) (pivs c)) := by
    refine c1_run rfl ?_
    have := len_ref (σ := st σ ((rows.set c (l, r.2)).map nfRow) (pivs c)) st0 (by rw [List.length_map, List.length_set]; exact hn)
    rwa [List.length_map, List.length_set] at this
  have s7 : sFor (iRng1 (c1 lenD (cVar 1))) (tVar 7) innerB [a, some (.ref σ.length), some (.ref (σ.length + 1)), some (nD c), some (nD c), some (.lst (nD c :: tl)), some (qD (nf l r.1)), e7] (st σ ((rows.set c (l, r.2)).map nfRow) (pivs c)) =
      some (.next, [a, some (.ref σ.length), some (.ref (σ.length + 1)), some (nD c), some (nD c), some (.lst (nD c :: tl)), some (qD (nf l r.1)), e7'], st σ (rows'.map nfRow) (pivs c)) := by
    unfold sFor
    rw [rng1_run hlen2 hn]
    exact h7
  -- 8
  have s8 : sExpr (cApp (cVar 2) (cVar 3)) [a, some (.ref σ.length), some (.ref (σ.length + 1)), some (nD c), some (nD c), some (.lst (nD c :: tl)), some (qD (nf l r.1)), e7'] (st σ (rows'.map nfRow) (pivs c)) =
      some (.next, [a, some (.ref σ.length), some (.ref (σ.length + 1)), some (nD c), some (nD c), some (.lst (nD c :: tl)), some (qD (nf l r.1)), e7'], st σ (rows'.map nfRow) (pivs (c + 1))) := by
    refine expr_run ?_
    show ((st σ (rows'.map nfRow) (pivs c))[σ.length + 1]?).bind _ = _
    rw [st1]
    show (if okN (pivs c) then _ else none) = _
    rw [if_pos (okN_of (by rw [pivs_len]; exact hc)), st_set1, pivs_succ]
  refine ⟨some (nD c), some (.lst (nD c :: tl)), some (qD (nf l r.1)), e7', ?_, G2, len2⟩
  unfold eBody
  exact (bCons_next s1).trans ((bCons_next s2).trans ((bCons_next s3).trans ((bCons_next s4).trans ((bCons_next s5).trans ((bCons_next s6).trans ((bCons_next s7).trans ((bCons_next s8).trans rfl)))))))
theorem skip_body {c n w : Nat} {rows : List IRow} (hrl : rows.length = n) (hn : n ≤ 10000) (a e4 e5 e6 e7 : Option D) :
    ∃ e4' e5', eBody [a, some (.ref σ.length), some (.ref (σ.length + 1)), some (nD c), e4, e5, e6, e7] (st σ (rows.map nfRow) (pivs n)) =
        some (.cont, [a, some (.ref σ.length), some (.ref (σ.length + 1)), some (nD c), e4', e5', e6, e7], st σ (rows.map nfRow) (pivs n)) := by
  have s1 : sAssign (c1 lenD (cVar 2)) (tVar 4) [a, some (.ref σ.length), some (.ref (σ.length + 1)), some (nD c), e4, e5, e6, e7] (st σ (rows.map nfRow) (pivs n)) =
      some (.next, [a, some (.ref σ.length), some (.ref (σ.length + 1)), some (nD c), some (nD n), e5, e6, e7], st σ (rows.map nfRow) (pivs n)) := by
    refine assign_run (d := nD n) (c1_run rfl ?_) rfl
    have := len_ref (σ := st σ (rows.map nfRow) (pivs n)) st1 (by rw [pivs_len]; exact hn)
    rwa [pivs_len] at this
  have hlenr : c1 lenD (cVar 1) [a, some (.ref σ.length), some (.ref (σ.length + 1)), some (nD c), some (nD n), e5, e6, e7] (st σ (rows.map nfRow) (pivs n)) = some (nD n, st σ (rows.map nfRow) (pivs n)) := by
    refine c1_run rfl ?_
    have := len_ref (σ := st σ (rows.map nfRow) (pivs n)) st0 (by rw [List.length_map]; omega)
    rwa [List.length_map, hrl] at this
  have s2 : sAssign eSpots (tVar 5) [a, some (.ref σ.length), some (.ref (σ.length + 1)), some (nD c), some (nD n), e5, e6, e7] (st σ (rows.map nfRow) (pivs n)) =
      some (.next, [a, some (.ref σ.length), some (.ref (σ.length + 1)), some (nD c), some (nD n), some (.lst []), e6, e7], st σ (rows.map nfRow) (pivs n)) := by
    refine assign_run (d := .lst []) ?_ rfl
    unfold eSpots cComp
    rw [rng2_run rfl hlenr hn hn, Nat.sub_self]
    rfl
  have s3 : sIf (qVal (c2 eqD (c1 lenD (cVar 5)) (cK (.int 0)))) (bCons sCont bNil) bNil [a, some (.ref σ.length), some (.ref (σ.length + 1)), some (nD c), some (nD n), some (.lst []), e6, e7] (st σ (rows.map nfRow) (pivs n)) =
      some (.cont, [a, some (.ref σ.length), some (.ref (σ.length + 1)), some (nD c), some (nD n), some (.lst []), e6, e7], st σ (rows.map nfRow) (pivs n)) := rfl
  refine ⟨some (nD n), some (.lst []), ?_⟩
  unfold eBody
  refine (bCons_next s1).trans ((bCons_next s2).trans ?_)
  rw [bCons, s3]; rfl
theorem skip_loop {n : Nat} {rows : List IRow} (hrl : rows.length = n) (hn : n ≤ 10000) (a : Option D) : ∀ (j c : Nat) (e3 e4 e5 e6 e7 : Option D),
    ∃ e3' e4' e5', forL (tVar 3) eBody ((List.range' c j).map nD) [a, some (.ref σ.length), some (.ref (σ.length + 1)), e3, e4, e5, e6, e7] (st σ (rows.map nfRow) (pivs n)) =
      some (.next, [a, some (.ref σ.length), some (.ref (σ.length + 1)), e3', e4', e5', e6, e7], st σ (rows.map nfRow) (pivs n))
  | 0, c, e3, e4, e5, e6, e7 => ⟨e3, e4, e5, rfl⟩
  | j + 1, c, e3, e4, e5, e6, e7 => by
    obtain ⟨e4', e5', h⟩ := skip_body (σ := σ) (c := c) (w := 0) hrl hn a e4 e5 e6 e7
    obtain ⟨e3'', e4'', e5'', ih⟩ := skip_loop hrl hn a j (c + 1) (some (nD c)) e4' e5' e6 e7
    refine ⟨e3'', e4'', e5'', ?_⟩
    rw [show (List.range' c (j + 1)).map nD = nD c :: (List.range' (c + 1) j).map nD from rfl, forL_cont (show tVar 3 (nD c) _ _ = some (_, _) from rfl) h]
    exact ih
theorem pivot_loop {w : Nat} (hw : w ≤ 10000) (a : Option D) (j : Nat) : ∀ (k c : Nat) (rows rows' : List IRow) (e3 e4 e5 e6 e7 : Option D), echI k c rows = some rows' → rows.length = c + k → c + k ≤ w → (∀ r ∈ rows, GoodR w r) →
    ∃ e3' e4' e5' e6' e7', forL (tVar 3) eBody ((List.range' c (k + j)).map nD) [a, some (.ref σ.length), some (.ref (σ.length + 1)), e3, e4, e5, e6, e7] (st σ (rows.map nfRow) (pivs c)) =
      forL (tVar 3) eBody ((List.range' (c + k) j).map nD) [a, some (.ref σ.length), some (.ref (σ.length + 1)), e3', e4', e5', e6', e7'] (st σ (rows'.map nfRow) (pivs (c + k))) ∧ (∀ r ∈ rows', GoodR w r) ∧ rows'.length = rows.length
  | 0, c, rows, rows', e3, e4, e5, e6, e7, h, hl, hcw, G => by
    cases h
    exact ⟨e3, e4, e5, e6, e7, by rw [Nat.zero_add]; rfl, G, rfl⟩
  | k + 1, c, rows, rows', e3, e4, e5, e6, e7, h, hl, hcw, G => by
    simp only [echI, Option.bind_eq_some_iff] at h
    obtain ⟨rows₁, h1, h2⟩ := h
    obtain ⟨e4', e5', e6', e7', hb, G', hl'⟩ := pivot_body (σ := σ) h1 G (by omega) hw (by omega) a e4 e5 e6 e7
    obtain ⟨f3, f4, f5, f6, f7, ih, G'', hl''⟩ := pivot_loop hw a j k (c + 1) rows₁ rows' (some (nD c)) e4' e5' e6' e7' h2 (by omega) (by omega) G'
    refine ⟨f3, f4, f5, f6, f7, ?_, G'', by omega⟩
    rw [show k + 1 + j = (k + j) + 1 by omega, show (List.range' c (k + j + 1)).map nD = nD c :: (List.range' (c + 1) (k + j)).map nD from rfl, forL_next (show tVar 3 (nD c) _ _ = some (_, _) from rfl) hb]
    rw [show c + (k + 1) = c + 1 + k by omega]
    exact ih
theorem shape_eq {l tl : List D} (h1 : l.length ≤ 10000) (h2 : tl.length + 1 ≤ 10000) : shapeF [.lst (.lst l :: tl)] σ = some (.tup [nD (tl.length + 1), nD l.length], σ) := by
  have hl : ∀ {Γ : Gam}, Γ[0]? = some (some (.lst (.lst l :: tl))) → c1 lenD (cVar 0) Γ σ = some (nD (tl.length + 1), σ) := fun {Γ} h => by
    refine c1_run (p := .lst (.lst l :: tl)) ?_ (len_lst (l := .lst l :: tl) (by simpa using h2))
    unfold cVar; rw [h]
  refine ret_self (Γ' := [some (.lst (.lst l :: tl))]) rfl (ret_run ?_)
  have hi : c2 idxD (cVar 0) (cK (.int 0)) [some (.lst (.lst l :: tl))] σ = some (.lst l, σ) := c2_run rfl rfl (idx_lst (n := 0) rfl (by omega))
  have hif : cIf (qVal (c2 gtD (c1 lenD (cVar 0)) (cK (.int 0)))) (c1 lenD (c2 idxD (cVar 0) (cK (.int 0)))) (cK (.int 0)) [some (.lst (.lst l :: tl))] σ = some (nD l.length, σ) := by
    have hq : qVal (c2 gtD (c1 lenD (cVar 0)) (cK (.int 0))) [some (.lst (.lst l :: tl))] σ = some (true, σ) := by
      refine qv_run (c2_run (hl rfl) rfl ?_)
      show some (D.bool (decide (((tl.length + 1 : Nat) : Int) > 0)), σ) = _
      rw [decide_eq_true (by omega)]
    unfold cIf; rw [hq]
    exact c1_run hi (len_lst h1)
  show (cCons _ _ [some (.lst (.lst l :: tl))] σ).bind _ = _
  rw [show cCons (c1 lenD (cVar 0)) (cCons (cIf (qVal (c2 gtD (c1 lenD (cVar 0)) (cK (.int 0)))) (c1 lenD (c2 idxD (cVar 0) (cK (.int 0)))) (cK (.int 0))) cNil) [some (.lst (.lst l :: tl))] σ = some ([nD (tl.length + 1), nD l.length], σ) from cons_run (hl rfl) (cons_run hif rfl)]
  rfl
theorem copied_comp : ∀ (ls : List (List D)) (e0 e1 : Option D), (∀ l ∈ ls, l.length ≤ 10000) → ∃ Γ', compLL (tVar 1) (fElt (c1 listV (cVar 1))) (ls.map D.lst) [e0, e1] σ = some (ls.map D.lst, Γ', σ)
  | [], e0, e1, _ => ⟨_, rfl⟩
  | l :: ls, e0, e1, h => by
    obtain ⟨Γ', ih⟩ := copied_comp ls e0 (some (.lst l)) fun q hq => h q (.tail _ hq)
    refine ⟨Γ', ?_⟩
    have hE : c1 listV (cVar 1) [e0, some (.lst l)] σ = some (.lst l, σ) := by
      refine c1_run rfl ?_
      show (if okN l then _ else none) = _
      rw [if_pos (okN_of (h l (.head _)))]
    rw [List.map_cons, compLL, show tVar 1 (.lst l) [e0, e1] σ = some ([e0, some (.lst l)], σ) from rfl]
    simp only [Option.bind_some]
    unfold fElt
    rw [hE]
    simp only [Option.map_some, Option.bind_some]
    unfold fElt at ih
    rw [ih]; rfl
theorem copied_eq {ls : List (List D)} (h : ∀ l ∈ ls, l.length ≤ 10000) (hn : ls.length ≤ 10000) : copiedF [.lst (ls.map D.lst)] σ = some (.ref σ.length, σ ++ [ls.map D.lst]) := by
  obtain ⟨Γ', k⟩ := copied_comp (σ := σ) ls none none h
  have : c_copied [some (.lst (ls.map D.lst))] σ = some (.ret (.ref σ.length), [some (.lst (ls.map D.lst))], σ ++ [ls.map D.lst]) := by
    refine ret_run ?_
    unfold cCompR
    rw [show iLst (cVar 0) [some (.lst (ls.map D.lst))] σ = some (ls.map D.lst, σ) from rfl]
    simp only [Option.bind_some]
    rw [show gamOf [none, none] [some (.lst (ls.map D.lst))] = [none, none] from rfl, k]
    simp only [Option.bind_some]
    rw [if_pos (okN_of (by rw [List.length_map]; exact hn))]
  show (c_copied [some (.lst (ls.map D.lst))] σ).bind _ = _
  rw [this]; rfl
theorem nr_row {f : Nat} {r : IRow} : nr (f + 3) (nfRow r) = true := by
  unfold nr nfRow
  dsimp only
  rw [List.all_eq_true]
  intro d hd
  obtain ⟨t, _, rfl⟩ := List.mem_map.mp hd
  rfl
theorem echelon_eq {n w : Nat} {rows rows' : List IRow} (h : echI n 0 rows = some rows') (G : ∀ r ∈ rows, GoodR w r) (hrl : rows.length = n) (h1 : 1 ≤ n) (hnw : n ≤ w) (hw : w ≤ 10000) (I : Inv σ) :
    echelonF [.lst (rows.map nfRow)] σ = some (.tup [.lst (rows'.map nfRow), .lst (pivs n)], σ) ∧ (∀ r ∈ rows', GoodR w r) ∧ rows'.length = n := by
  obtain ⟨f3, f4, f5, f6, f7, k1, G', hl'⟩ := pivot_loop (σ := σ) hw (some (.lst (rows.map nfRow))) (w - n) n 0 rows rows' none none none none none h (by omega) (by omega) G
  obtain ⟨g3, g4, g5, k2⟩ := skip_loop (σ := σ) (n := n) (rows := rows') (by omega) (by omega) (some (.lst (rows.map nfRow))) (w - n) n f3 f4 f5 f6 f7
  rw [Nat.zero_add, k2, show n + (w - n) = w by omega] at k1
  refine ⟨?_, G', by omega⟩
  have hcop : copiedF [.lst (rows.map nfRow)] σ = some (.ref σ.length, σ ++ [rows.map nfRow]) := by
    have := copied_eq (σ := σ) (ls := rows.map fun r => nfL r.1 r.2) (fun l hl => by
      obtain ⟨r, hr, rfl⟩ := List.mem_map.mp hl
      unfold nfL; rw [List.length_map, (G r hr).len]; exact hw) (by rw [List.length_map]; omega)
    rw [List.map_map] at this
    exact this
  have hshape : shapeF [.lst (rows.map nfRow)] (st σ (rows.map nfRow) (pivs 0)) = some (.tup [nD n, nD w], st σ (rows.map nfRow) (pivs 0)) := by
    cases rows with
    | nil => simp at hrl; omega
    | cons r rs =>
      have := shape_eq (σ := st σ ((r :: rs).map nfRow) (pivs 0)) (l := nfL r.1 r.2) (tl := rs.map nfRow) (by unfold nfL; rw [List.length_map, (G r (.head _)).len]; exact hw) (by rw [List.length_map]; simp at hrl; omega)
      rw [List.length_map, show (nfL r.1 r.2).length = w by unfold nfL; rw [List.length_map, (G r (.head _)).len]] at this
      rw [List.length_cons] at hrl
      rw [hrl] at this
      exact this
  have s1 : sAssign (cTup (cCons (cCall copiedF (cCons (cVar 0) cNil)) (cCons (cRef cNil) cNil))) (tTup [(tVar 1), (tVar 2)]) [some (.lst (rows.map nfRow)), none, none, none, none, none, none, none] σ =
      some (.next, [some (.lst (rows.map nfRow)), some (.ref σ.length), some (.ref (σ.length + 1)), none, none, none, none, none], st σ (rows.map nfRow) (pivs 0)) := by
    refine assign_run (d := .tup [.ref σ.length, .ref (σ.length + 1)]) (σ' := st σ (rows.map nfRow) (pivs 0)) ?_ rfl
    unfold cTup cCons
    have e1 : cCall copiedF (fun Γ σ => (cVar 0 Γ σ).bind fun p => (cNil Γ p.2).bind fun q => some (p.1 :: q.1, q.2)) [some (.lst (rows.map nfRow)), none, none, none, none, none, none, none] σ = some (.ref σ.length, σ ++ [rows.map nfRow]) := hcop
    rw [e1]
    simp only [Option.bind_some]
    have e2 : cRef cNil [some (.lst (rows.map nfRow)), none, none, none, none, none, none, none] (σ ++ [rows.map nfRow]) = some (.ref (σ.length + 1), st σ (rows.map nfRow) (pivs 0)) := by
      show some (D.ref (σ ++ [rows.map nfRow]).length, σ ++ [rows.map nfRow] ++ [[]]) = _
      rw [List.length_append, List.append_assoc]; rfl
    rw [e2]; rfl
  have s2 : sFor (iRng1 (c2 idxD (cCall shapeF (cCons (cVar 0) cNil)) (cK (.int 1)))) (tVar 3) eBody [some (.lst (rows.map nfRow)), some (.ref σ.length), some (.ref (σ.length + 1)), none, none, none, none, none] (st σ (rows.map nfRow) (pivs 0)) =
      some (.next, [some (.lst (rows.map nfRow)), some (.ref σ.length), some (.ref (σ.length + 1)), g3, g4, g5, f6, f7], st σ (rows'.map nfRow) (pivs n)) := by
    unfold sFor
    have hx : c2 idxD (cCall shapeF (cCons (cVar 0) cNil)) (cK (.int 1)) [some (.lst (rows.map nfRow)), some (.ref σ.length), some (.ref (σ.length + 1)), none, none, none, none, none] (st σ (rows.map nfRow) (pivs 0)) = some (nD w, st σ (rows.map nfRow) (pivs 0)) :=
      c2_run (call1_run rfl hshape) rfl rfl
    rw [rng1_run hx hw]
    exact k1
  have hc : c_echelon [some (.lst (rows.map nfRow)), none, none, none, none, none, none, none] σ = some (.ret (.tup [.ref σ.length, .ref (σ.length + 1)]), [some (.lst (rows.map nfRow)), some (.ref σ.length), some (.ref (σ.length + 1)), g3, g4, g5, f6, f7], st σ (rows'.map nfRow) (pivs n)) := by
    rw [c_echelon_eq]
    exact (bCons_next s1).trans ((bCons_next s2).trans rfl)
  refine mkFn_run rfl hc (finish_inv I (by simp) ?_)
  have f1 : frz 7 (st σ (rows'.map nfRow) (pivs n)) σ.length (.ref σ.length) = some (.lst (rows'.map nfRow)) := by
    unfold frz
    dsimp only
    rw [if_neg (Nat.lt_irrefl _), st0]
    simp only [Option.bind_some]
    rw [omap_self fun d hd => frz_nr (by obtain ⟨r, _, rfl⟩ := List.mem_map.mp hd; exact nr_row (f := 3))]; rfl
  have f2 : frz 7 (st σ (rows'.map nfRow) (pivs n)) σ.length (.ref (σ.length + 1)) = some (.lst (pivs n)) := by
    unfold frz
    dsimp only
    rw [if_neg (by omega), st1]
    simp only [Option.bind_some]
    rw [omap_self fun d hd => frz_nr (by obtain ⟨r, _, rfl⟩ := List.mem_map.mp hd; rfl)]; rfl
  show (omap (frz 7 (st σ (rows'.map nfRow) (pivs n)) σ.length) [.ref σ.length, .ref (σ.length + 1)]).map D.tup = _
  unfold omap; rw [f1]
  simp only [Option.bind_some]
  unfold omap; rw [f2]; rfl
end
end Mine
-- H7
set_option maxHeartbeats 1000000
namespace Mine
open PySem
noncomputable def pool (L : List D) (k : Int) : Sto := [[.lst L, .int k]]
noncomputable def IntsL (L : List D) : Prop := ∃ ns : List Int, L = ns.map D.int
theorem inv_pool {L : List D} {k : Int} (h : IntsL L) : Inv (pool L k) := by
  obtain ⟨ns, rfl⟩ := h
  intro l hl d hd
  simp only [pool, List.mem_singleton] at hl
  subst hl
  simp only [List.mem_cons, List.not_mem_nil, or_false] at hd
  rcases hd with rfl | rfl
  · unfold nr; dsimp only
    rw [List.all_eq_true]; intro d hd
    obtain ⟨t, _, rfl⟩ := List.mem_map.mp hd; rfl
  · rfl
theorem need_ok {x : D} {σ : Sto} : need_shapeF [.bool true, x] σ = some (.none, σ) := mkFn_end (Γ' := [some (.bool true), some x]) rfl rfl finish_self
theorem need_run {x y : Cmd} {q : D} {Γ : Gam} {σ : Sto} (hx : x Γ σ = some (.bool true, σ)) (hy : y Γ σ = some (q, σ)) : sExpr (cCall need_shapeF (cCons x (cCons y cNil))) Γ σ = some (.next, Γ, σ) :=
  expr_run (call2_run hx hy need_ok)
theorem drop_comp {n : Nat} {σ : Sto} : ∀ (ls : List (List D)) (e0 e1 : Option D), (∀ l ∈ ls, l.length ≤ 10000) →
    ∃ Γ', compLL (tVar 1) (fElt (c2 fromD (cVar 1) (cVar 2))) (ls.map D.lst) [e0, e1, some (nD n)] σ = some (ls.map fun l => D.lst (l.drop n), Γ', σ)
  | [], e0, e1, _ => ⟨_, rfl⟩
  | l :: ls, e0, e1, h => by
    obtain ⟨Γ', ih⟩ := drop_comp (n := n) (σ := σ) ls e0 (some (.lst l)) fun q hq => h q (.tail _ hq)
    refine ⟨Γ', ?_⟩
    have hE : c2 fromD (cVar 1) (cVar 2) [e0, some (.lst l), some (nD n)] σ = some (.lst (l.drop n), σ) := by
      refine c2_run (p := .lst l) (q := nD n) rfl rfl ?_
      show (if decide (0 ≤ (n : Int)) && okN l then some (D.lst (l.drop (n : Int).toNat), σ) else none) = _
      rw [decide_eq_true (Int.natCast_nonneg n), okN_of (h l (.head _))]; rfl
    rw [List.map_cons, compLL, show tVar 1 (.lst l) [e0, e1, some (nD n)] σ = some ([e0, some (.lst l), some (nD n)], σ) from rfl]
    simp only [Option.bind_some]
    unfold fElt
    rw [hE]
    simp only [Option.map_some, Option.bind_some]
    unfold fElt at ih
    rw [ih]; rfl
noncomputable def wideC : Cmd := cComp [none, none, none, some 1] (iEnm (cVar 0)) (tTup [(tVar 1), (tVar 2)]) (fElt (c2 addD (c1 listV (cVar 2)) (c2 idxD (cCall unit_matrixF (cCons (cVar 3) cNil)) (cVar 1))))
theorem inverse_core {n : Nat} {A : List D} {rows rows' : List IRow} {σ : Sto} (I : Inv σ) (hn : n = 2 ∨ n = 3) (hA : A.length = n) (hsh : shapeF [.lst A] σ = some (.tup [nD n, nD n], σ))
    (hw : wideC [some (.lst A), some (nD n), none, none, none] σ = some (.lst (rows.map nfRow), σ)) (he : echI n 0 rows = some rows') (G : ∀ r ∈ rows, GoodR (n + n) r) (hl : rows.length = n) :
    inverseF [.lst A] σ = some (.lst (rows'.map fun r => .lst ((nfL r.1 r.2).drop n)), σ) := by
  have hn5 : n ≤ 5000 := by omega
  obtain ⟨ke, G', hl'⟩ := echelon_eq (σ := σ) he G hl (by omega) (by omega) (by omega) I
  have s1 : sAssign (c1 lenD (cVar 0)) (tVar 1) [some (.lst A), none, none, none, none] σ = some (.next, [some (.lst A), some (nD n), none, none, none], σ) :=
    assign_run (d := nD n) (c1_run rfl (by have := len_lst (σ := σ) (l := A) (by omega); rwa [hA] at this)) rfl
  have s2 : sExpr (cCall need_shapeF (cCons (cOr (c2 eqD (cVar 1) (c2 idxD (cCall shapeF (cCons (cVar 0) cNil)) (cK (.int 1)))) (c2 eqD (cVar 1) (cK (.int 0)))) (cCons (cK (.str (Str.ofString "an inverse of no square"))) cNil))) [some (.lst A), some (nD n), none, none, none] σ =
      some (.next, [some (.lst A), some (nD n), none, none, none], σ) := by
    refine need_run ?_ rfl
    have h1 : c2 eqD (cVar 1) (c2 idxD (cCall shapeF (cCons (cVar 0) cNil)) (cK (.int 1))) [some (.lst A), some (nD n), none, none, none] σ = some (.bool true, σ) := by
      refine c2_run (q := nD n) rfl (c2_run (call1_run rfl hsh) rfl rfl) ?_
      show some (D.bool ((n : Int) == (n : Int)), σ) = _
      rw [beq_self_eq_true]
    unfold cOr; rw [h1]; rfl
  have s3 : sAssign wideC (tVar 2) [some (.lst A), some (nD n), none, none, none] σ = some (.next, [some (.lst A), some (nD n), some (.lst (rows.map nfRow)), none, none], σ) := assign_run hw rfl
  have s4 : sAssign (cCall echelonF (cCons (cVar 2) cNil)) (tTup [(tVar 3), (tVar 4)]) [some (.lst A), some (nD n), some (.lst (rows.map nfRow)), none, none] σ =
      some (.next, [some (.lst A), some (nD n), some (.lst (rows.map nfRow)), some (.lst (rows'.map nfRow)), some (.lst (pivs n))], σ) := assign_run (call1_run rfl ke) rfl
  have s5 : sIf (qVal (c2 neD (c2 uptoD (cVar 4) (cVar 1)) (c1 lrD (cVar 1)))) (bCons (sRet (cK .none)) bNil) bNil [some (.lst A), some (nD n), some (.lst (rows.map nfRow)), some (.lst (rows'.map nfRow)), some (.lst (pivs n))] σ =
      some (.next, [some (.lst A), some (nD n), some (.lst (rows.map nfRow)), some (.lst (rows'.map nfRow)), some (.lst (pivs n))], σ) := by
    rcases hn with rfl | rfl <;> rfl
  obtain ⟨Γd, kd⟩ := drop_comp (n := n) (σ := σ) (rows'.map fun r => nfL r.1 r.2) none none (fun l hl => by
      obtain ⟨r, hr, rfl⟩ := List.mem_map.mp hl
      unfold nfL; rw [List.length_map, (G' r hr).len]; omega)
  refine ret_self (Γ' := [some (.lst A), some (nD n), some (.lst (rows.map nfRow)), some (.lst (rows'.map nfRow)), some (.lst (pivs n))]) rfl ?_
  refine (bCons_next s1).trans ((bCons_next s2).trans ((bCons_next s3).trans ((bCons_next s4).trans ((bCons_next s5).trans (ret_run ?_)))))
  unfold cComp
  rw [show iLst (cVar 3) [some (.lst A), some (nD n), some (.lst (rows.map nfRow)), some (.lst (rows'.map nfRow)), some (.lst (pivs n))] σ = some (rows'.map nfRow, σ) from rfl]
  simp only [Option.bind_some]
  rw [show gamOf [none, none, some 1] [some (.lst A), some (nD n), some (.lst (rows.map nfRow)), some (.lst (rows'.map nfRow)), some (.lst (pivs n))] = [none, none, some (nD n)] from rfl]
  rw [List.map_map, List.map_map] at kd
  rw [show rows'.map nfRow = rows'.map (D.lst ∘ fun r => nfL r.1 r.2) from rfl, kd]
  simp only [Option.bind_some]
  rw [if_pos (okN_of (by rw [List.length_map]; omega))]; rfl
theorem null_core {n : Nat} {rows rows' : List IRow} {σ : Sto} (I : Inv σ) (hn : n = 2 ∨ n = 3) (hσ : σ.length = 2) (hsh : ∀ τ, shapeF [.lst (rows.map nfRow)] τ = some (.tup [nD n, nD n], τ)) (he : echI n 0 rows = some rows') (G : ∀ r ∈ rows, GoodR n r) (hl : rows.length = n) :
    null_baseF [.lst (rows.map nfRow)] σ = some (.lst [], σ) := by
  obtain ⟨ke, G', hl'⟩ := echelon_eq (σ := σ) he G hl (by omega) (Nat.le_refl _) (by omega) I
  have s1 : sAssign (cCall echelonF (cCons (cVar 0) cNil)) (tTup [(tVar 1), (tVar 2)]) [some (.lst (rows.map nfRow)), none, none, none, none, none, none, none] σ =
      some (.next, [some (.lst (rows.map nfRow)), some (.lst (rows'.map nfRow)), some (.lst (pivs n)), none, none, none, none, none], σ) := assign_run (call1_run rfl ke) rfl
  have s2 : sAssign (cRef cNil) (tVar 3) [some (.lst (rows.map nfRow)), some (.lst (rows'.map nfRow)), some (.lst (pivs n)), none, none, none, none, none] σ =
      some (.next, [some (.lst (rows.map nfRow)), some (.lst (rows'.map nfRow)), some (.lst (pivs n)), some (.ref 2), none, none, none, none], σ ++ [[]]) := by
    refine assign_run (d := .ref 2) (σ' := σ ++ [[]]) ?_ rfl
    show some (D.ref σ.length, σ ++ [[]]) = _
    rw [hσ]
  have hx : ∀ Γ : Gam, Γ[0]? = some (some (.lst (rows.map nfRow))) → iRng1 (c2 idxD (cCall shapeF (cCons (cVar 0) cNil)) (cK (.int 1))) Γ (σ ++ [[]]) = some ((List.range' 0 n).map nD, σ ++ [[]]) := fun Γ h =>
    rng1_run (c2_run (call1_run (p := .lst (rows.map nfRow)) (by unfold cVar; rw [h]) (hsh _)) rfl rfl) (by omega)
  have hc : ∃ Γ', c_null_base [some (.lst (rows.map nfRow)), none, none, none, none, none, none, none] σ = some (.ret (.ref 2), Γ', σ ++ [[]]) := by
    rcases hn with rfl | rfl
    · refine ⟨_, (bCons_next s1).trans ((bCons_next s2).trans ((bCons_next (Γ' := [some (.lst (rows.map nfRow)), some (.lst (rows'.map nfRow)), some (.lst (pivs 2)), some (.ref 2), some (nD 1), none, none, none]) (σ' := σ ++ [[]]) ?_).trans rfl))⟩
      unfold sFor; rw [hx _ rfl]; rfl
    · refine ⟨_, (bCons_next s1).trans ((bCons_next s2).trans ((bCons_next (Γ' := [some (.lst (rows.map nfRow)), some (.lst (rows'.map nfRow)), some (.lst (pivs 3)), some (.ref 2), some (nD 2), none, none, none]) (σ' := σ ++ [[]]) ?_).trans rfl))⟩
      unfold sFor; rw [hx _ rfl]; rfl
  obtain ⟨Γ', hc⟩ := hc
  refine mkFn_run rfl hc (finish_inv I (by simp) ?_)
  unfold frz
  dsimp only
  rw [if_neg (by omega), List.getElem?_append_right (by omega), hσ]; rfl
end Mine
-- H8
set_option maxHeartbeats 1000000
namespace Mine
open PySem
noncomputable def augC : Cmd := cComp [none, none, none, some 1] (iEnm (cVar 0)) (tTup [(tVar 1), (tVar 2)]) (fElt (c2 addD (c1 listV (cVar 2)) (cLst (cCons (c2 idxD (cVar 3) (cVar 1)) cNil))))
noncomputable def lastQ (n : Nat) (r : IRow) : Q := nf ((r.2[n]?).getD 0) r.1
noncomputable def lastD (n : Nat) (r : IRow) : D := qD (lastQ n r)
noncomputable def solLoop : SCmd := sFor (iEnm (cVar 5)) (tTup [(tVar 3), (tVar 7)]) (bCons (sAssign (c2 idxD (c2 idxD (cVar 4) (cVar 3)) (cVar 2)) (tSub (cVar 6) (cVar 7))) bNil)
theorem cons_of {α : Type} {l : List α} {n : Nat} (h : l.length = n + 1) : ∃ a m, l = a :: m ∧ m.length = n := by
  cases l with
  | nil => cases h
  | cons a m => exact ⟨a, m, rfl, Nat.succ.inj h⟩
theorem nil_of {α : Type} {l : List α} (h : l.length = 0) : l = [] := List.length_eq_zero_iff.mp h
theorem two_of {α : Type} {l : List α} (h : l.length = 2) : ∃ a b, l = [a, b] := by
  obtain ⟨a, m, rfl, h1⟩ := cons_of h
  obtain ⟨b, m', rfl, h2⟩ := cons_of h1
  exact ⟨a, b, by rw [nil_of h2]⟩
theorem three_of {α : Type} {l : List α} (h : l.length = 3) : ∃ a b c, l = [a, b, c] := by
  obtain ⟨a, m, rfl, h1⟩ := cons_of h
  obtain ⟨b, c, rfl⟩ := two_of h1
  exact ⟨a, b, c, rfl⟩
theorem four_of {α : Type} {l : List α} (h : l.length = 4) : ∃ a b c d, l = [a, b, c, d] := by
  obtain ⟨a, m, rfl, h1⟩ := cons_of h
  obtain ⟨b, c, d, rfl⟩ := three_of h1
  exact ⟨a, b, c, d, rfl⟩
theorem solve_core {n : Nat} {L : List D} {k : Int} (hL : IntsL L) {rows rows' rowsA rowsA' : List IRow} {B : List D} (hn : n = 2 ∨ n = 3) (hB : B.length = n) (hsh : ∀ τ, shapeF [.lst (rowsA.map nfRow)] τ = some (.tup [nD n, nD n], τ))
    (haug : augC [some (.lst (rowsA.map nfRow)), some (.lst B), some (nD n), none, none, none, none, none] (pool L k) = some (.lst (rows.map nfRow), pool L k))
    (he : echI n 0 rows = some rows') (G : ∀ r ∈ rows, GoodR (n + 1) r) (hl : rows.length = n) (heA : echI n 0 rowsA = some rowsA') (GA : ∀ r ∈ rowsA, GoodR n r) (hlA : rowsA.length = n) :
    solve_systemF [.lst (rowsA.map nfRow), .lst B] (pool L k) = some (.tup [.lst (rows'.map (lastD n)), .lst []], pool L k) := by
  have I := inv_pool (k := k) hL
  obtain ⟨ke, G', hl'⟩ := echelon_eq (σ := pool L k) he G hl (by omega) (by omega) (by omega) I
  have hlen : c1 lenD (cVar 0) [some (.lst (rowsA.map nfRow)), some (.lst B), none, none, none, none, none, none] (pool L k) = some (nD n, pool L k) :=
    c1_run rfl (by have := len_lst (σ := pool L k) (l := rowsA.map nfRow) (by rw [List.length_map]; omega); rwa [List.length_map, hlA] at this)
  have hlenB : c1 lenD (cVar 1) [some (.lst (rowsA.map nfRow)), some (.lst B), none, none, none, none, none, none] (pool L k) = some (nD n, pool L k) :=
    c1_run rfl (by have := len_lst (σ := pool L k) (l := B) (by omega); rwa [hB] at this)
  have s1 : sExpr (cCall need_shapeF (cCons (c2 eqD (c1 lenD (cVar 0)) (c1 lenD (cVar 1))) (cCons (cK (.str (Str.ofString "as many numbers as rows are wanted"))) cNil))) [some (.lst (rowsA.map nfRow)), some (.lst B), none, none, none, none, none, none] (pool L k) =
      some (.next, [some (.lst (rowsA.map nfRow)), some (.lst B), none, none, none, none, none, none], pool L k) := by
    refine need_run (c2_run hlen hlenB ?_) rfl
    show some (D.bool ((n : Int) == (n : Int)), _) = _
    rw [beq_self_eq_true]
  have s2 : sAssign (c2 idxD (cCall shapeF (cCons (cVar 0) cNil)) (cK (.int 1))) (tVar 2) [some (.lst (rowsA.map nfRow)), some (.lst B), none, none, none, none, none, none] (pool L k) =
      some (.next, [some (.lst (rowsA.map nfRow)), some (.lst B), some (nD n), none, none, none, none, none], pool L k) := assign_run (d := nD n) (c2_run (call1_run rfl (hsh _)) rfl rfl) rfl
  have s3 : sAssign (cCall echelonF (cCons augC cNil)) (tTup [(tVar 4), (tVar 5)]) [some (.lst (rowsA.map nfRow)), some (.lst B), some (nD n), none, none, none, none, none] (pool L k) =
      some (.next, [some (.lst (rowsA.map nfRow)), some (.lst B), some (nD n), none, some (.lst (rows'.map nfRow)), some (.lst (pivs n)), none, none], pool L k) := assign_run (call1_run haug ke) rfl
  have hres : ∃ found Γ', found = rows'.map (lastD n) ∧ c_solve_system [some (.lst (rowsA.map nfRow)), some (.lst B), none, none, none, none, none, none] (pool L k) =
      (bCons (sRet (cTup (cCons (cVar 6) (cCons (cCall null_baseF (cCons (cVar 0) cNil)) cNil))))) bNil (some (.lst (rowsA.map nfRow)) :: some (.lst B) :: Γ') (pool L k ++ [found]) ∧ Γ'[4]? = some (some (.ref 1)) := by
    rcases hn with rfl | rfl
    · obtain ⟨⟨d0, l0⟩, ⟨d1, l1⟩, rfl⟩ := two_of hl'
      obtain ⟨a0, b0, c0, rfl⟩ := three_of (G' (d0, l0) (.head _)).len
      obtain ⟨a1, b1, c1, rfl⟩ := three_of (G' (d1, l1) (.tail _ (.head _))).len
      exact ⟨_, _, rfl, (bCons_next s1).trans ((bCons_next s2).trans ((bCons_next s3).trans rfl)), rfl⟩
    · obtain ⟨⟨d0, l0⟩, ⟨d1, l1⟩, ⟨d2, l2⟩, rfl⟩ := three_of hl'
      obtain ⟨a0, b0, c0, e0, rfl⟩ := four_of (G' (d0, l0) (.head _)).len
      obtain ⟨a1, b1, c1, e1, rfl⟩ := four_of (G' (d1, l1) (.tail _ (.head _))).len
      obtain ⟨a2, b2, c2, e2, rfl⟩ := four_of (G' (d2, l2) (.tail _ (.tail _ (.head _)))).len
      exact ⟨_, _, rfl, (bCons_next s1).trans ((bCons_next s2).trans ((bCons_next s3).trans rfl)), rfl⟩
  obtain ⟨found, Γ', rfl, hc, h4⟩ := hres
  have Iq : ∀ d ∈ rows'.map (lastD n), ∀ f, nr (f + 2) d = true := fun d hd f => by
    obtain ⟨r, _, rfl⟩ := List.mem_map.mp hd; rfl
  have I2 : Inv (pool L k ++ [rows'.map (lastD n)]) := by
    intro l hl d hd
    rcases List.mem_append.mp hl with hl | hl
    · exact I l hl d hd
    · rw [List.mem_singleton] at hl; subst hl; exact Iq d hd 6
  have hnull := null_core (σ := pool L k ++ [rows'.map (lastD n)]) I2 hn rfl hsh heA GA hlA
  have h6 : cVar 6 (some (.lst (rowsA.map nfRow)) :: some (.lst B) :: Γ') (pool L k ++ [rows'.map (lastD n)]) = some (.ref 1, pool L k ++ [rows'.map (lastD n)]) := by
    unfold cVar
    rw [show (some (D.lst (rowsA.map nfRow)) :: some (D.lst B) :: Γ')[6]? = Γ'[4]? from rfl, h4]
  have hr : c_solve_system [some (.lst (rowsA.map nfRow)), some (.lst B), none, none, none, none, none, none] (pool L k) = some (.ret (.tup [.ref 1, .lst []]), some (.lst (rowsA.map nfRow)) :: some (.lst B) :: Γ', pool L k ++ [rows'.map (lastD n)]) := by
    rw [hc]
    refine ret_run ?_
    unfold cTup
    rw [cons_run h6 (cons_run (call1_run (show cVar 0 _ _ = some (.lst (rowsA.map nfRow), _) from rfl) hnull) rfl)]
    rfl
  refine mkFn_run rfl hr (finish_inv I (by simp) ?_)
  show (omap (frz 7 _ 1) [.ref 1, .lst []]).map D.tup = _
  have f1 : frz 7 (pool L k ++ [rows'.map (lastD n)]) 1 (.ref 1) = some (.lst (rows'.map (lastD n))) := by
    show (omap (frz 6 _ 1) (rows'.map (lastD n))).map D.lst = _
    rw [omap_self fun d hd => frz_nr (Iq d hd 4)]; rfl
  unfold omap; rw [f1]; rfl
end Mine
-- H9
set_option maxHeartbeats 1000000
namespace Mine
open PySem
theorem comp_run {mp : List (Option Nat)} {it : ICmd} {t : TCmd} {f : FCmd} {Γ Γ₀ Γ' : Gam} {σ : Sto} {items res : List D} (h1 : it Γ σ = some (items, σ)) (h2 : gamOf mp Γ = Γ₀) (h3 : compLL t f items Γ₀ σ = some (res, Γ', σ)) (h4 : res.length ≤ 10000) :
    cComp mp it t f Γ σ = some (.lst res, σ) := by
  unfold cComp; rw [h1]; simp only [Option.bind_some]; rw [h2, h3]; simp only [Option.bind_some]; rw [if_pos (okN_of h4)]
noncomputable def oneD (x : Int) : D := .tup [.int x, .int 1]
noncomputable def rowO (l : List Int) : D := .lst (l.map oneD)
noncomputable def matO (m : List (List Int)) : D := .lst (m.map rowO)
theorem qD_one {x : Int} : qD (nf x 1) = oneD x := by rw [nf_one]; rfl
section
variable {σ : Sto}
theorem radd1 {a b : Int} (ha : small a = true) (hb : small b = true) : raddF [oneD a, oneD b] σ = some (oneD (a + b), σ) := by
  have h : raddP (a, 1) (b, 1) = some (a + b, 1) := by
    unfold raddP
    rw [show (small (a, (1 : Int)).1 && small (a, (1 : Int)).2 && small (b, (1 : Int)).1) = true by simp [ha, hb]; rfl]
    dsimp only
    rw [Int.mul_one, Int.mul_one, Int.mul_one, ratP_nf (by decide) (by decide), nf_one]
  exact radd_eq h
theorem rmul1 {a b : Int} (ha : small a = true) : rmulF [oneD a, oneD b] σ = some (oneD (a * b), σ) := by
  have h : rmulP (a, 1) (b, 1) = some (a * b, 1) := by
    unfold rmulP
    rw [show (small (a, (1 : Int)).1 && small (a, (1 : Int)).2) = true by simp [ha]; rfl]
    dsimp only
    rw [Int.mul_one, ratP_nf (by decide) (by decide), nf_one]
  exact rmul_eq h
theorem rdiv1 {t s u : Int} (ht : small t = true) (hs : 0 < s) (hs' : tiny s = true) (hu : t = s * u) : rdivF [oneD t, oneD s] σ = some (oneD u, σ) := by
  have h : rdivP (t, 1) (s, 1) = some (u, 1) := by
    unfold rdivP
    rw [show (small (t, (1 : Int)).1 && small (t, (1 : Int)).2) = true by simp [ht]; rfl]
    dsimp only
    rw [isPos_of hs]
    dsimp only
    rw [Int.mul_one, Int.one_mul, ratP_nf hs (by have := tiny_lt hs'; omega)]
    have := nf_scale (k := s) (t := u) (b := 1) hs (by decide)
    rw [Int.mul_one] at this
    rw [hu, this, nf_one]
  exact rdiv_eq h
theorem rneg1 {a : Int} : rnegF [oneD a] σ = some (oneD (0 - a), σ) := rneg_eq (a := (a, 1))
noncomputable def mid (i : Int) : Bool := Nat.blt i.natAbs 1073741824
theorem mid_lt {i : Int} (h : mid i = true) : i.natAbs < 1073741824 := by unfold mid at h; rwa [Nat.blt_eq] at h
theorem small_mid {i : Int} (h : mid i = true) : small i = true := small_of (by have := mid_lt h; omega)
noncomputable def dotG : Int → List Int → List Int → Int
  | acc, x :: xs, y :: ys => dotG (acc + x * y) xs ys
  | acc, _, _ => acc
theorem mul_mid {x y : Int} (hx : mid x = true) (hy : mid y = true) : (x * y).natAbs ≤ 1152921504606846975 := by
  rw [Int.natAbs_mul]
  have := mid_lt hx
  have := mid_lt hy
  have : x.natAbs * y.natAbs ≤ 1073741823 * 1073741823 := Nat.mul_le_mul (by omega) (by omega)
  omega
noncomputable def dotB : SCmd := bCons (sAssign (cCall raddF (cCons (cVar 2) (cCons (cCall rmulF (cCons (cVar 4) (cCons (c2 idxD (cVar 1) (cVar 3)) cNil))) cNil))) (tVar 2)) bNil
theorem dot_loop {A : Option D} {YS : List Int} (hY : ∀ y ∈ YS, mid y = true) (hYl : YS.length ≤ 10000) : ∀ (xs ys : List Int) (j : Nat) (acc : Int) (e3 e4 : Option D), YS.drop j = ys → xs.length ≤ ys.length → (∀ x ∈ xs, mid x = true) →
    acc.natAbs + xs.length * 1152921504606846975 < 4611686018427387904 →
    ∃ e3' e4', forL (tTup [tVar 3, tVar 4]) dotB (enumL j (xs.map oneD)) [A, some (rowO YS), some (oneD acc), e3, e4] σ = some (.next, [A, some (rowO YS), some (oneD (dotG acc xs ys)), e3', e4'], σ)
  | [], ys, j, acc, e3, e4, _, _, _, _ => ⟨e3, e4, by cases ys <;> rfl⟩
  | x :: xs, [], j, acc, e3, e4, _, h, _, _ => by simp at h
  | x :: xs, y :: ys, j, acc, e3, e4, hdr, hl, hx, hb => by
    have hj : YS[j]? = some y := by
      have := congrArg (fun l => l[0]?) hdr
      simpa using this
    have hj' : j < YS.length := (List.getElem?_eq_some_iff.mp hj).1
    have hdr' : YS.drop (j + 1) = ys := by rw [← List.tail_drop, hdr]; rfl
    have hp := mul_mid (hx x (.head _)) (hY y (List.mem_of_getElem? hj))
    rw [List.length_cons] at hb
    obtain ⟨e3', e4', ih⟩ := dot_loop (A := A) hY hYl xs ys (j + 1) (acc + x * y) (some (nD j)) (some (oneD x)) hdr' (by simpa using hl) (fun q hq => hx q (.tail _ hq)) (by omega)
    refine ⟨e3', e4', ?_⟩
    have hi : c2 idxD (cVar 1) (cVar 3) [A, some (rowO YS), some (oneD acc), some (nD j), some (oneD x)] σ = some (oneD y, σ) := c2_run rfl rfl (idx_lst (by rw [List.getElem?_map, hj]; rfl) (by omega))
    have hb' : dotB [A, some (rowO YS), some (oneD acc), some (nD j), some (oneD x)] σ = some (.next, [A, some (rowO YS), some (oneD (acc + x * y)), some (nD j), some (oneD x)], σ) := by
      unfold dotB
      exact (bCons_next (assign_run (call2_run rfl (call2_run rfl hi (rmul1 (small_mid (hx x (.head _))))) (radd1 (small_of (by omega)) (small_of (by omega)))) rfl)).trans rfl
    show forL _ _ (.tup [nD j, oneD x] :: enumL (j + 1) (xs.map oneD)) _ σ = _
    rw [forL_next (show tTup [tVar 3, tVar 4] (.tup [nD j, oneD x]) _ _ = some (_, _) from rfl) hb']
    exact ih
noncomputable def dotI (xs ys : List Int) : Int := dotG 0 xs ys
theorem dot_eq {xs ys : List Int} (hx : ∀ x ∈ xs, mid x = true) (hy : ∀ y ∈ ys, mid y = true) (hl : xs.length ≤ ys.length) (h4 : ys.length ≤ 4) : dotF [rowO xs, rowO ys] σ = some (oneD (dotI xs ys), σ) := by
  obtain ⟨e3, e4, h⟩ := dot_loop (σ := σ) (A := some (rowO xs)) hy (by omega) xs ys 0 0 none none rfl hl hx (by simp; omega)
  refine ret_self (Γ' := [some (rowO xs), some (rowO ys), some (oneD (dotI xs ys)), e3, e4]) rfl ?_
  have s1 : sAssign (cK (.tup [.int 0, .int 1])) (tVar 2) [some (rowO xs), some (rowO ys), none, none, none] σ = some (.next, [some (rowO xs), some (rowO ys), some (oneD 0), none, none], σ) := rfl
  have s2 : sFor (iEnm (cVar 0)) (tTup [(tVar 3), (tVar 4)]) dotB [some (rowO xs), some (rowO ys), some (oneD 0), none, none] σ = some (.next, [some (rowO xs), some (rowO ys), some (oneD (dotI xs ys)), e3, e4], σ) := h
  exact (bCons_next s1).trans ((bCons_next s2).trans rfl)
noncomputable def midM (m : List (List Int)) : Bool := m.all fun r => r.all mid
structure Sq (n : Nat) (m : List (List Int)) : Prop where
  len : m.length = n
  row : ∀ r ∈ m, r.length = n
theorem shapeO {n : Nat} {m : List (List Int)} (h : Sq n m) (h1 : 1 ≤ n) (hn : n ≤ 10000) : shapeF [matO m] σ = some (.tup [nD n, nD n], σ) := by
  cases m with
  | nil => have := h.len; simp at this; omega
  | cons r rs =>
    have := shape_eq (σ := σ) (l := r.map oneD) (tl := rs.map rowO) (by rw [List.length_map, h.row r (.head _)]; exact hn) (by rw [List.length_map]; have := h.len; simp at this; omega)
    rw [List.length_map, List.length_map, h.row r (.head _), show rs.length + 1 = n from h.len] at this
    exact this
noncomputable def colI (j : Nat) (m : List (List Int)) : List Int := m.map fun r => (r[j]?).getD 0
noncomputable def colsI (n : Nat) (m : List (List Int)) : List (List Int) := (List.range' 0 n).map fun j => colI j m
theorem col_comp {j n : Nat} (hjn : j < n) (hn : n ≤ 10000) : ∀ (m : List (List Int)) (e0 e1 : Option D), (∀ r ∈ m, r.length = n) →
    ∃ Γ', compLL (tVar 1) (fElt (c2 idxD (cVar 1) (cVar 2))) (m.map rowO) [e0, e1, some (nD j)] σ = some ((colI j m).map oneD, Γ', σ)
  | [], e0, e1, _ => ⟨_, rfl⟩
  | r :: m, e0, e1, h => by
    obtain ⟨Γ', ih⟩ := col_comp hjn hn m e0 (some (rowO r)) fun q hq => h q (.tail _ hq)
    refine ⟨Γ', ?_⟩
    have hr := h r (.head _)
    have hx : r[j]? = some ((r[j]?).getD 0) := by rw [List.getElem?_eq_getElem (by omega)]; rfl
    have hE : c2 idxD (cVar 1) (cVar 2) [e0, some (rowO r), some (nD j)] σ = some (oneD ((r[j]?).getD 0), σ) := c2_run rfl rfl (idx_lst (by rw [List.getElem?_map, hx]; rfl) (by omega))
    rw [List.map_cons, compLL, show tVar 1 (rowO r) [e0, e1, some (nD j)] σ = some ([e0, some (rowO r), some (nD j)], σ) from rfl]
    simp only [Option.bind_some]
    unfold fElt
    rw [hE]
    simp only [Option.map_some, Option.bind_some]
    unfold fElt at ih
    rw [ih]; rfl
noncomputable def colC : Cmd := cComp [none, none, some 1] (iLst (cVar 2)) (tVar 1) (fElt (c2 idxD (cVar 1) (cVar 2)))
theorem cols_comp {n : Nat} {m : List (List Int)} (hm : Sq n m) (hn : n ≤ 10000) : ∀ (k j : Nat) (e0 e1 : Option D), j + k ≤ n →
    ∃ Γ', compLL (tVar 1) (fElt colC) ((List.range' j k).map nD) [e0, e1, some (matO m)] σ = some (((List.range' j k).map fun j => colI j m).map rowO, Γ', σ)
  | 0, j, e0, e1, _ => ⟨_, rfl⟩
  | k + 1, j, e0, e1, h => by
    obtain ⟨Γ', ih⟩ := cols_comp hm hn k (j + 1) e0 (some (nD j)) (by omega)
    refine ⟨Γ', ?_⟩
    have hE : colC [e0, some (nD j), some (matO m)] σ = some (rowO (colI j m), σ) := by
      unfold colC cComp
      rw [show iLst (cVar 2) [e0, some (nD j), some (matO m)] σ = some (m.map rowO, σ) from rfl]
      simp only [Option.bind_some]
      rw [show gamOf [none, none, some 1] [e0, some (nD j), some (matO m)] = [none, none, some (nD j)] from rfl]
      obtain ⟨Γ'', hc⟩ := col_comp (σ := σ) (j := j) (n := n) (by omega) hn m none none hm.row
      rw [hc]
      simp only [Option.bind_some]
      rw [if_pos (okN_of (by unfold colI; rw [List.length_map, List.length_map, hm.len]; exact hn))]; rfl
    rw [show (List.range' j (k + 1)).map nD = nD j :: (List.range' (j + 1) k).map nD from rfl, compLL, show tVar 1 (nD j) [e0, e1, some (matO m)] σ = some ([e0, some (nD j), some (matO m)], σ) from rfl]
    simp only [Option.bind_some]
    unfold fElt
    rw [hE]
    simp only [Option.map_some, Option.bind_some]
    unfold fElt at ih
    rw [ih]; rfl
theorem trans_eq {n : Nat} {m : List (List Int)} (hm : Sq n m) (h1 : 1 ≤ n) (hn : n ≤ 10000) : transposedF [matO m] σ = some (matO (colsI n m), σ) := by
  obtain ⟨Γ', h⟩ := cols_comp (σ := σ) hm hn n 0 none none (by omega)
  refine ret_self (Γ' := [some (matO m)]) rfl (ret_run ?_)
  exact comp_run (rng1_run (c2_run (call1_run rfl (shapeO hm h1 hn)) rfl rfl) hn) rfl h (by rw [List.length_map]; unfold colsI; rw [List.length_map, List.length_range']; exact hn)
theorem cols_sq {n : Nat} {m : List (List Int)} (hm : Sq n m) : Sq n (colsI n m) := ⟨by unfold colsI; simp, fun r hr => by
  obtain ⟨j, _, rfl⟩ := List.mem_map.mp hr
  unfold colI; rw [List.length_map]; exact hm.len⟩
theorem mulr_comp {r : List Int} (hr : ∀ x ∈ r, mid x = true) : ∀ (cols : List (List Int)) (e0 e1 : Option D), (∀ c ∈ cols, c.length ≤ 4 ∧ r.length ≤ c.length ∧ ∀ y ∈ c, mid y = true) →
    ∃ Γ', compLL (tVar 1) (fElt (cCall dotF (cCons (cVar 2) (cCons (cVar 1) cNil)))) (cols.map rowO) [e0, e1, some (rowO r)] σ = some ((cols.map (dotI r)).map oneD, Γ', σ)
  | [], e0, e1, _ => ⟨_, rfl⟩
  | c :: cols, e0, e1, h => by
    obtain ⟨Γ', ih⟩ := mulr_comp hr cols e0 (some (rowO c)) fun q hq => h q (.tail _ hq)
    refine ⟨Γ', ?_⟩
    have hc := h c (.head _)
    have hE : cCall dotF (cCons (cVar 2) (cCons (cVar 1) cNil)) [e0, some (rowO c), some (rowO r)] σ = some (oneD (dotI r c), σ) := call2_run rfl rfl (dot_eq hr hc.2.2 hc.2.1 hc.1)
    rw [List.map_cons, compLL, show tVar 1 (rowO c) [e0, e1, some (rowO r)] σ = some ([e0, some (rowO c), some (rowO r)], σ) from rfl]
    simp only [Option.bind_some]
    unfold fElt
    rw [hE]
    simp only [Option.map_some, Option.bind_some]
    unfold fElt at ih
    rw [ih]; rfl
noncomputable def mulrC : Cmd := cComp [none, none, some 1] (iLst (cVar 2)) (tVar 1) (fElt (cCall dotF (cCons (cVar 2) (cCons (cVar 1) cNil))))
noncomputable def mulI (a cols : List (List Int)) : List (List Int) := a.map fun r => cols.map (dotI r)
theorem mul_comp {cols : List (List Int)} (hcl : cols.length ≤ 10000) : ∀ (a : List (List Int)) (e0 e1 : Option D), (∀ r ∈ a, (∀ x ∈ r, mid x = true) ∧ ∀ c ∈ cols, c.length ≤ 4 ∧ r.length ≤ c.length ∧ ∀ y ∈ c, mid y = true) →
    ∃ Γ', compLL (tVar 1) (fElt mulrC) (a.map rowO) [e0, e1, some (matO cols)] σ = some ((mulI a cols).map rowO, Γ', σ)
  | [], e0, e1, _ => ⟨_, rfl⟩
  | r :: a, e0, e1, h => by
    obtain ⟨Γ', ih⟩ := mul_comp hcl a e0 (some (rowO r)) fun q hq => h q (.tail _ hq)
    refine ⟨Γ', ?_⟩
    have hr := h r (.head _)
    have hE : mulrC [e0, some (rowO r), some (matO cols)] σ = some (rowO (cols.map (dotI r)), σ) := by
      unfold mulrC cComp
      rw [show iLst (cVar 2) [e0, some (rowO r), some (matO cols)] σ = some (cols.map rowO, σ) from rfl]
      simp only [Option.bind_some]
      rw [show gamOf [none, none, some 1] [e0, some (rowO r), some (matO cols)] = [none, none, some (rowO r)] from rfl]
      obtain ⟨Γ'', hc⟩ := mulr_comp (σ := σ) hr.1 cols none none hr.2
      rw [hc]
      simp only [Option.bind_some]
      rw [if_pos (okN_of (by rw [List.length_map, List.length_map]; exact hcl))]; rfl
    rw [List.map_cons, compLL, show tVar 1 (rowO r) [e0, e1, some (matO cols)] σ = some ([e0, some (rowO r), some (matO cols)], σ) from rfl]
    simp only [Option.bind_some]
    unfold fElt
    rw [hE]
    simp only [Option.map_some, Option.bind_some]
    unfold fElt at ih
    rw [ih]; rfl
theorem midM_iff {m : List (List Int)} (h : midM m = true) : ∀ r ∈ m, ∀ x ∈ r, mid x = true := fun r hr x hx => by
  unfold midM at h
  exact List.all_eq_true.mp (List.all_eq_true.mp h r hr) x hx
theorem mid_cols {n : Nat} {m : List (List Int)} (hm : ∀ r ∈ m, ∀ x ∈ r, mid x = true) : ∀ c ∈ colsI n m, ∀ y ∈ c, mid y = true := fun c hc y hy => by
  obtain ⟨j, _, rfl⟩ := List.mem_map.mp hc
  obtain ⟨r, hr, rfl⟩ := List.mem_map.mp hy
  cases h : r[j]? with
  | none => rfl
  | some x => exact hm r hr x (List.mem_of_getElem? h)
theorem mat_mul_eq {n : Nat} {a b : List (List Int)} (ha : Sq n a) (hb : Sq n b) (h1 : 1 ≤ n) (hn : n ≤ 4) (ma : midM a = true) (mb : midM b = true) : mat_mulF [matO a, matO b] σ = some (matO (mulI a (colsI n b)), σ) := by
  have hc := cols_sq hb
  obtain ⟨Γ', h⟩ := mul_comp (σ := σ) (cols := colsI n b) (by have := hc.len; omega) a none none (fun r hr => ⟨midM_iff ma r hr, fun c hcm => ⟨by have := hc.row c hcm; omega, by have := hc.row c hcm; have := ha.row r hr; omega, mid_cols (midM_iff mb) c hcm⟩⟩)
  have s1 : sExpr (cCall need_shapeF (cCons (c2 eqD (c2 idxD (cCall shapeF (cCons (cVar 0) cNil)) (cK (.int 1))) (c1 lenD (cVar 1))) (cCons (cK (.str (Str.ofString "a product of unlike shapes"))) cNil))) [some (matO a), some (matO b), none] σ = some (.next, [some (matO a), some (matO b), none], σ) := by
    refine need_run (c2_run (p := nD n) (q := nD n) (c2_run (call1_run rfl (shapeO ha h1 (by omega))) rfl rfl) (c1_run rfl ?_) ?_) rfl
    · have := len_lst (σ := σ) (l := b.map rowO) (by rw [List.length_map]; have := hb.len; omega)
      rwa [List.length_map, hb.len] at this
    · show some (D.bool ((n : Int) == (n : Int)), _) = _
      rw [beq_self_eq_true]
  have s2 : sAssign (cCall transposedF (cCons (cVar 1) cNil)) (tVar 2) [some (matO a), some (matO b), none] σ = some (.next, [some (matO a), some (matO b), some (matO (colsI n b))], σ) := assign_run (call1_run rfl (trans_eq hb h1 (by omega))) rfl
  refine ret_self (Γ' := [some (matO a), some (matO b), some (matO (colsI n b))]) rfl ((bCons_next s1).trans ((bCons_next s2).trans (ret_run ?_)))
  exact comp_run rfl rfl h (by unfold mulI; rw [List.length_map, List.length_map]; have := ha.len; omega)
end
end Mine
-- H10
set_option maxHeartbeats 1000000
namespace Mine
open PySem
noncomputable def diag (m : List (List Int)) (i : Nat) : Int := (((m[i]?).getD [])[i]?).getD 0
noncomputable def trG (m : List (List Int)) : Nat → Nat → Int → Int
  | 0, _, acc => acc
  | k + 1, i, acc => trG m k (i + 1) (acc + diag m i)
noncomputable def trI (m : List (List Int)) (n : Nat) : Int := trG m n 0 0
section
variable {σ : Sto}
noncomputable def trB : SCmd := bCons (sAssign (cCall raddF (cCons (cVar 1) (cCons (c2 idxD (c2 idxD (cVar 0) (cVar 2)) (cVar 2)) cNil))) (tVar 1)) bNil
theorem diag_idx {n i : Nat} {m : List (List Int)} (hm : Sq n m) (hi : i < n) (hn : n ≤ 10000) {Γ : Gam} {a b : Cmd} (ha : a Γ σ = some (matO m, σ)) (hb : b Γ σ = some (nD i, σ)) : c2 idxD (c2 idxD a b) b Γ σ = some (oneD (diag m i), σ) := by
  obtain ⟨r, hr⟩ : ∃ r, m[i]? = some r := ⟨_, List.getElem?_eq_getElem (by rw [hm.len]; exact hi)⟩
  have hrl := hm.row r (List.mem_of_getElem? hr)
  obtain ⟨x, hx⟩ : ∃ x, r[i]? = some x := ⟨_, List.getElem?_eq_getElem (by rw [hrl]; exact hi)⟩
  have : diag m i = x := by unfold diag; rw [hr]; simp [hx]
  rw [this]
  exact c2_run (c2_run ha hb (idx_lst (l := m.map rowO) (d := rowO r) (by rw [List.getElem?_map, hr]; rfl) (by omega))) hb (idx_lst (by rw [List.getElem?_map, hx]; rfl) (by omega))
theorem diag_mid {m : List (List Int)} (hm : midM m = true) (i : Nat) : mid (diag m i) = true := by
  unfold diag
  cases h : m[i]? with
  | none => simp; rfl
  | some r =>
    simp only [Option.getD_some]
    cases h2 : r[i]? with
    | none => rfl
    | some x => exact midM_iff hm r (List.mem_of_getElem? h) x (List.mem_of_getElem? h2)
theorem tr_loop {n : Nat} {m : List (List Int)} (hm : Sq n m) (hn : n ≤ 4) (hM : midM m = true) : ∀ (k i : Nat) (acc : Int) (e2 : Option D), i + k ≤ n → acc.natAbs + k * 1073741824 < 4611686018427387904 →
    ∃ e2', forL (tVar 2) trB ((List.range' i k).map nD) [some (matO m), some (oneD acc), e2] σ = some (.next, [some (matO m), some (oneD (trG m k i acc)), e2'], σ)
  | 0, i, acc, e2, _, _ => ⟨e2, rfl⟩
  | k + 1, i, acc, e2, hi, hb => by
    have hd := diag_mid hM i
    have hd' := mid_lt hd
    have hb2 : acc.natAbs < 4611686018427387904 := by omega
    have hb3 : (acc + diag m i).natAbs + k * 1073741824 < 4611686018427387904 := by omega
    obtain ⟨e2', ih⟩ := tr_loop hm hn hM k (i + 1) (acc + diag m i) (some (nD i)) (by omega) hb3
    refine ⟨e2', ?_⟩
    have hB : trB [some (matO m), some (oneD acc), some (nD i)] σ = some (.next, [some (matO m), some (oneD (acc + diag m i)), some (nD i)], σ) :=
      (bCons_next (assign_run (call2_run rfl (diag_idx hm (by omega) (by omega) rfl rfl) (radd1 (small_of hb2) (small_mid hd))) rfl)).trans rfl
    rw [show (List.range' i (k + 1)).map nD = nD i :: (List.range' (i + 1) k).map nD from rfl, forL_next (show tVar 2 (nD i) _ _ = some (_, _) from rfl) hB]
    exact ih
theorem lenO {n : Nat} {m : List (List Int)} (hm : Sq n m) (hn : n ≤ 10000) : lenD (matO m) σ = some (nD n, σ) := by
  have := len_lst (σ := σ) (l := m.map rowO) (by rw [List.length_map, hm.len]; exact hn)
  rwa [List.length_map, hm.len] at this
theorem trace_eq {n : Nat} {m : List (List Int)} (hm : Sq n m) (h1 : 1 ≤ n) (hn : n ≤ 4) (hM : midM m = true) : traceF [matO m] σ = some (oneD (trI m n), σ) := by
  obtain ⟨e2, h⟩ := tr_loop (σ := σ) hm hn hM n 0 0 none (by omega) (by simp; omega)
  have s1 : sExpr (cCall need_shapeF (cCons (c2 eqD (c1 lenD (cVar 0)) (c2 idxD (cCall shapeF (cCons (cVar 0) cNil)) (cK (.int 1)))) (cCons (cK (.str (Str.ofString "a trace of no square"))) cNil))) [some (matO m), none, none] σ = some (.next, [some (matO m), none, none], σ) := by
    refine need_run (c2_run (p := nD n) (q := nD n) (c1_run rfl (lenO hm (by omega))) (c2_run (call1_run rfl (shapeO hm h1 (by omega))) rfl rfl) ?_) rfl
    show some (D.bool ((n : Int) == (n : Int)), _) = _
    rw [beq_self_eq_true]
  have s2 : sAssign (cK (.tup [.int 0, .int 1])) (tVar 1) [some (matO m), none, none] σ = some (.next, [some (matO m), some (oneD 0), none], σ) := rfl
  have s3 : sFor (iRng1 (c1 lenD (cVar 0))) (tVar 2) trB [some (matO m), some (oneD 0), none] σ = some (.next, [some (matO m), some (oneD (trI m n)), e2], σ) := by
    unfold sFor
    rw [rng1_run (c1_run rfl (lenO hm (by omega))) (by omega)]
    exact h
  exact ret_self (Γ' := [some (matO m), some (oneD (trI m n)), e2]) rfl ((bCons_next s1).trans ((bCons_next s2).trans ((bCons_next s3).trans rfl)))
-- mat_scale
noncomputable def scaleR (u : Int) (l : List Int) : List Int := l.map fun x => x * u
theorem scaler_comp {u : Int} : ∀ (l : List Int) (e0 e1 : Option D), (∀ x ∈ l, small x = true) → ∃ Γ', compLL (tVar 1) (fElt (cCall rmulF (cCons (cVar 1) (cCons (cVar 2) cNil)))) (l.map oneD) [e0, e1, some (oneD u)] σ = some ((scaleR u l).map oneD, Γ', σ)
  | [], e0, e1, _ => ⟨_, rfl⟩
  | x :: l, e0, e1, h => by
    obtain ⟨Γ', ih⟩ := scaler_comp l e0 (some (oneD x)) fun q hq => h q (.tail _ hq)
    refine ⟨Γ', ?_⟩
    have hE : cCall rmulF (cCons (cVar 1) (cCons (cVar 2) cNil)) [e0, some (oneD x), some (oneD u)] σ = some (oneD (x * u), σ) := call2_run rfl rfl (rmul1 (h x (.head _)))
    rw [List.map_cons, compLL, show tVar 1 (oneD x) [e0, e1, some (oneD u)] σ = some ([e0, some (oneD x), some (oneD u)], σ) from rfl]
    simp only [Option.bind_some]
    unfold fElt
    rw [hE]
    simp only [Option.map_some, Option.bind_some]
    unfold fElt at ih
    rw [ih]; rfl
noncomputable def scalerC : Cmd := cComp [none, none, some 2] (iLst (cVar 1)) (tVar 1) (fElt (cCall rmulF (cCons (cVar 1) (cCons (cVar 2) cNil))))
theorem scale_comp {u : Int} : ∀ (m : List (List Int)) (e0 e1 : Option D), (∀ r ∈ m, r.length ≤ 10000 ∧ ∀ x ∈ r, small x = true) → ∃ Γ', compLL (tVar 1) (fElt scalerC) (m.map rowO) [e0, e1, some (oneD u)] σ = some ((m.map (scaleR u)).map rowO, Γ', σ)
  | [], e0, e1, _ => ⟨_, rfl⟩
  | r :: m, e0, e1, h => by
    obtain ⟨Γ', ih⟩ := scale_comp m e0 (some (rowO r)) fun q hq => h q (.tail _ hq)
    refine ⟨Γ', ?_⟩
    have hr := h r (.head _)
    obtain ⟨Γ'', hc⟩ := scaler_comp (σ := σ) (u := u) r none none hr.2
    have hE : scalerC [e0, some (rowO r), some (oneD u)] σ = some (rowO (scaleR u r), σ) := comp_run (items := r.map oneD) rfl rfl hc (by unfold scaleR; rw [List.length_map, List.length_map]; exact hr.1)
    rw [List.map_cons, compLL, show tVar 1 (rowO r) [e0, e1, some (oneD u)] σ = some ([e0, some (rowO r), some (oneD u)], σ) from rfl]
    simp only [Option.bind_some]
    unfold fElt
    rw [hE]
    simp only [Option.map_some, Option.bind_some]
    unfold fElt at ih
    rw [ih]; rfl
theorem scale_eq {m : List (List Int)} {u : Int} (h : ∀ r ∈ m, r.length ≤ 10000 ∧ ∀ x ∈ r, small x = true) (hl : m.length ≤ 10000) : mat_scaleF [matO m, oneD u] σ = some (matO (m.map (scaleR u)), σ) := by
  obtain ⟨Γ', hc⟩ := scale_comp (σ := σ) (u := u) m none none h
  exact ret_self (Γ' := [some (matO m), some (oneD u)]) rfl (ret_run (comp_run (items := m.map rowO) rfl rfl hc (by rw [List.length_map, List.length_map]; exact hl)))
-- mat_add
noncomputable def addR : List Int → List Int → List Int
  | x :: l, y :: m => (x + y) :: addR l m
  | _, _ => []
noncomputable def addM : List (List Int) → List (List Int) → List (List Int)
  | x :: l, y :: m => addR x y :: addM l m
  | _, _ => []
theorem addR_len : ∀ {l m : List Int}, l.length = m.length → (addR l m).length = l.length
  | [], [], _ => rfl
  | x :: l, y :: m, h => by simp only [addR, List.length_cons]; rw [addR_len (by simpa using h)]
theorem addr_comp {B : List (List Int)} {R : List Int} {i : Nat} (hR : B[i]? = some R) (hi : i ≤ 10000) (hRl : R.length ≤ 10000) : ∀ (l ys : List Int) (j : Nat) (e0 e1 e2 : Option D), R.drop j = ys → l.length = ys.length → (∀ x ∈ l, small x = true) → (∀ y ∈ R, small y = true) →
    ∃ Γ', compLL (tTup [tVar 1, tVar 2]) (fElt (cCall raddF (cCons (cVar 2) (cCons (c2 idxD (c2 idxD (cVar 3) (cVar 4)) (cVar 1)) cNil)))) (enumL j (l.map oneD)) [e0, e1, e2, some (matO B), some (nD i)] σ = some ((addR l ys).map oneD, Γ', σ)
  | [], ys, j, e0, e1, e2, _, _, _, _ => ⟨[e0, e1, e2, some (matO B), some (nD i)], by cases ys <;> rfl⟩
  | x :: l, [], j, e0, e1, e2, _, h, _, _ => by simp at h
  | x :: l, y :: ys, j, e0, e1, e2, hdr, hl, hx, hy => by
    have hj : R[j]? = some y := by
      have := congrArg (fun l => l[0]?) hdr
      simpa using this
    have hj' : j < R.length := (List.getElem?_eq_some_iff.mp hj).1
    have hdr' : R.drop (j + 1) = ys := by rw [← List.tail_drop, hdr]; rfl
    obtain ⟨Γ', ih⟩ := addr_comp hR hi hRl l ys (j + 1) e0 (some (nD j)) (some (oneD x)) hdr' (by simpa using hl) (fun q hq => hx q (.tail _ hq)) hy
    refine ⟨Γ', ?_⟩
    have hE : cCall raddF (cCons (cVar 2) (cCons (c2 idxD (c2 idxD (cVar 3) (cVar 4)) (cVar 1)) cNil)) [e0, some (nD j), some (oneD x), some (matO B), some (nD i)] σ = some (oneD (x + y), σ) :=
      call2_run rfl (c2_run (c2_run rfl rfl (idx_lst (l := B.map rowO) (d := rowO R) (by rw [List.getElem?_map, hR]; rfl) hi)) rfl (idx_lst (by rw [List.getElem?_map, hj]; rfl) (by omega))) (radd1 (hx x (.head _)) (hy y (List.mem_of_getElem? hj)))
    show compLL _ _ (.tup [nD j, oneD x] :: enumL (j + 1) (l.map oneD)) _ σ = _
    rw [compLL, show tTup [tVar 1, tVar 2] (.tup [nD j, oneD x]) [e0, e1, e2, some (matO B), some (nD i)] σ = some ([e0, some (nD j), some (oneD x), some (matO B), some (nD i)], σ) from rfl]
    simp only [Option.bind_some]
    unfold fElt
    rw [hE]
    simp only [Option.map_some, Option.bind_some]
    unfold fElt at ih
    rw [ih]; rfl
noncomputable def addrC : Cmd := cComp [none, none, none, some 3, some 1] (iEnm (cVar 2)) (tTup [(tVar 1), (tVar 2)]) (fElt (cCall raddF (cCons (cVar 2) (cCons (c2 idxD (c2 idxD (cVar 3) (cVar 4)) (cVar 1)) cNil))))
theorem addm_comp {B : List (List Int)} {n : Nat} (hn : n ≤ 4) (hBl : B.length = n) (hB : ∀ r ∈ B, r.length = n ∧ ∀ y ∈ r, small y = true) : ∀ (m ys : List (List Int)) (j : Nat) (e0 e1 e2 : Option D), B.drop j = ys → m.length = ys.length → (∀ r ∈ m, r.length = n ∧ ∀ x ∈ r, small x = true) →
    ∃ Γ', compLL (tTup [tVar 1, tVar 2]) (fElt addrC) (enumL j (m.map rowO)) [e0, e1, e2, some (matO B)] σ = some ((addM m ys).map rowO, Γ', σ)
  | [], ys, j, e0, e1, e2, _, _, _ => ⟨[e0, e1, e2, some (matO B)], by cases ys <;> rfl⟩
  | r :: m, [], j, e0, e1, e2, _, h, _ => by simp at h
  | r :: m, y :: ys, j, e0, e1, e2, hdr, hl, hx => by
    have hj : B[j]? = some y := by
      have := congrArg (fun l => l[0]?) hdr
      simpa using this
    have hj' : j < B.length := (List.getElem?_eq_some_iff.mp hj).1
    have hdr' : B.drop (j + 1) = ys := by rw [← List.tail_drop, hdr]; rfl
    have hr := hx r (.head _)
    have hy := hB y (List.mem_of_getElem? hj)
    obtain ⟨Γ', ih⟩ := addm_comp hn hBl hB m ys (j + 1) e0 (some (nD j)) (some (rowO r)) hdr' (by simpa using hl) (fun q hq => hx q (.tail _ hq))
    refine ⟨Γ', ?_⟩
    obtain ⟨Γ'', hc⟩ := addr_comp (σ := σ) hj (by omega) (by omega) r y 0 none none none rfl (by omega) hr.2 hy.2
    have hE : addrC [e0, some (nD j), some (rowO r), some (matO B)] σ = some (rowO (addR r y), σ) := comp_run (items := enumL 0 (r.map oneD)) rfl rfl hc (by rw [List.length_map, addR_len (by omega)]; omega)
    show compLL _ _ (.tup [nD j, rowO r] :: enumL (j + 1) (m.map rowO)) _ σ = _
    rw [compLL, show tTup [tVar 1, tVar 2] (.tup [nD j, rowO r]) [e0, e1, e2, some (matO B)] σ = some ([e0, some (nD j), some (rowO r), some (matO B)], σ) from rfl]
    simp only [Option.bind_some]
    unfold fElt
    rw [hE]
    simp only [Option.map_some, Option.bind_some]
    unfold fElt at ih
    rw [ih]; rfl
theorem addM_sq {n : Nat} : ∀ {k : Nat} {a b : List (List Int)}, a.length = k → b.length = k → (∀ r ∈ a, r.length = n) → (∀ r ∈ b, r.length = n) → (addM a b).length = k ∧ ∀ r ∈ addM a b, r.length = n
  | 0, [], [], _, _, _, _ => ⟨rfl, fun r hr => nomatch hr⟩
  | k + 1, x :: a, y :: b, h1, h2, h3, h4 => by
    obtain ⟨i1, i2⟩ := addM_sq (n := n) (k := k) (a := a) (b := b) (by simpa using h1) (by simpa using h2) (fun r hr => h3 r (.tail _ hr)) fun r hr => h4 r (.tail _ hr)
    refine ⟨by simp [addM, i1], fun r hr => ?_⟩
    rcases List.mem_cons.mp hr with rfl | hr
    · rw [addR_len (by rw [h3 x (.head _), h4 y (.head _)])]; exact h3 x (.head _)
    · exact i2 r hr
theorem mat_add_eq {n : Nat} {a b : List (List Int)} (ha : Sq n a) (hb : Sq n b) (hn : n = 3 ∨ n = 4) (sa : ∀ r ∈ a, ∀ x ∈ r, small x = true) (sb : ∀ r ∈ b, ∀ x ∈ r, small x = true) : mat_addF [matO a, matO b] σ = some (matO (addM a b), σ) := by
  obtain ⟨Γ', hc⟩ := addm_comp (σ := σ) (n := n) (by omega) hb.len (fun r hr => ⟨hb.row r hr, sb r hr⟩) a b 0 none none none rfl (by rw [ha.len, hb.len]) (fun r hr => ⟨ha.row r hr, sa r hr⟩)
  have s1 : sExpr (cCall need_shapeF (cCons (c2 eqD (cCall shapeF (cCons (cVar 0) cNil)) (cCall shapeF (cCons (cVar 1) cNil))) (cCons (cK (.str (Str.ofString "a sum of unlike shapes"))) cNil))) [some (matO a), some (matO b)] σ = some (.next, [some (matO a), some (matO b)], σ) := by
    refine need_run (c2_run (p := .tup [nD n, nD n]) (q := .tup [nD n, nD n]) (call1_run rfl (shapeO ha (by omega) (by omega))) (call1_run rfl (shapeO hb (by omega) (by omega))) ?_) rfl
    rcases hn with rfl | rfl <;> rfl
  exact ret_self (Γ' := [some (matO a), some (matO b)]) rfl ((bCons_next s1).trans (ret_run (comp_run (items := enumL 0 (a.map rowO)) rfl rfl hc (by rw [List.length_map, (addM_sq ha.len hb.len ha.row hb.row).1]; omega))))
end
end Mine
-- H11
set_option maxHeartbeats 1000000
namespace Mine
open PySem
noncomputable def charI (n : Nat) (U a : List (List Int)) : Nat → Nat → List (List Int) → List Int → Option (List Int)
  | 0, _, _, acc => some acc
  | k + 1, s, p, acc => (fun p' : List (List Int) => match midM p' with
    | false => none
    | true => (fun u : Int => match (trI p' n == s * u) && mid (0 - u) with
      | false => none
      | true => (fun p'' : List (List Int) => match midM p'' with
        | false => none
        | true => charI n U a k (s + 1) p'' (acc ++ [0 - u])) (addM p' (U.map (scaleR (0 - u))))) (trI p' n / s)) (mulI a (colsI n p))
noncomputable def chB : SCmd := bCons (sAssign (cCall mat_mulF (cCons (cVar 0) (cCons (cVar 3) cNil))) (tVar 3))
  (bCons (sAssign (cCall rnegF (cCons (cCall rdivF (cCons (cCall traceF (cCons (cVar 3) cNil)) (cCons (cTup (cCons (cVar 4) (cCons (cK (.int 1)) cNil))) cNil))) cNil)) (tVar 5))
  (bCons (sExpr (cApp (cVar 2) (cVar 5)))
  (bCons (sAssign (cCall mat_addF (cCons (cVar 3) (cCons (cCall mat_scaleF (cCons (cCall unit_matrixF (cCons (cVar 1) cNil)) (cCons (cVar 5) cNil))) cNil))) (tVar 3))
  bNil)))
theorem mul_sq {n : Nat} {a cols : List (List Int)} (ha : a.length = n) (hc : cols.length = n) : Sq n (mulI a cols) := ⟨by unfold mulI; rw [List.length_map, ha], fun r hr => by
  obtain ⟨q, _, rfl⟩ := List.mem_map.mp hr
  rw [List.length_map, hc]⟩
theorem trG_small {m : List (List Int)} (hM : midM m = true) : ∀ (k i : Nat) (acc : Int), (trG m k i acc).natAbs ≤ acc.natAbs + k * 1073741824
  | 0, i, acc => by simp [trG]
  | k + 1, i, acc => by
    have h := trG_small hM k (i + 1) (acc + diag m i)
    have := mid_lt (diag_mid hM i)
    unfold trG
    omega
section
variable {σ : Sto}
theorem ap0 {x : List D} : (σ ++ [x])[σ.length]? = some x := by rw [List.getElem?_append_right (Nat.le_refl _), Nat.sub_self]; rfl
theorem ap_set {x y : List D} : (σ ++ [x]).set σ.length y = σ ++ [y] := by rw [List.set_append_right _ _ (Nat.le_refl _), Nat.sub_self]; rfl
theorem char_loop {n : Nat} {U a : List (List Int)} (hn : n = 3 ∨ n = 4) (hU : ∀ τ, unit_matrixF [nD n] τ = some (matO U, τ)) (sU : Sq n U) (vU : ∀ r ∈ U, ∀ x ∈ r, x = 0 ∨ x = 1) (ha : Sq n a) (ma : midM a = true) :
    ∀ (k s : Nat) (p : List (List Int)) (acc res : List Int) (e4 e5 : Option D), charI n U a k s p acc = some res → Sq n p → midM p = true → 1 ≤ s → s + k ≤ n + 1 → acc.length = s →
    ∃ e3 e4' e5', forL (tVar 4) chB ((List.range' s k).map nD) [some (matO a), some (nD n), some (.ref σ.length), some (matO p), e4, e5] (σ ++ [acc.map oneD]) =
      some (.next, [some (matO a), some (nD n), some (.ref σ.length), e3, e4', e5'], σ ++ [res.map oneD]) ∧ res.length = s + k
  | 0, s, p, acc, res, e4, e5, h, _, _, _, _, hal => by cases h; exact ⟨some (matO p), e4, e5, rfl, hal⟩
  | k + 1, s, p, acc, res, e4, e5, h, hp, mp, hs1, hsk, hal => by
    unfold charI at h
    dsimp only at h
    split at h
    · cases h
    rename_i m1
    split at h
    · cases h
    rename_i g
    split at h
    · cases h
    rename_i m2
    simp only [Bool.and_eq_true, beq_iff_eq] at g
    generalize hp' : mulI a (colsI n p) = p' at *
    generalize hu : trI p' n / (s : Int) = u at *
    have hsp' : Sq n p' := hp' ▸ mul_sq ha.len (cols_sq hp).len
    have hsc : Sq n (U.map (scaleR (0 - u))) := ⟨by rw [List.length_map, sU.len], fun r hr => by
      obtain ⟨q, hq, rfl⟩ := List.mem_map.mp hr
      unfold scaleR; rw [List.length_map, sU.row q hq]⟩
    have hadd := addM_sq (n := n) (k := n) hsp'.len hsc.len hsp'.row hsc.row
    obtain ⟨e3, e4', e5', ih, ihl⟩ := char_loop hn hU sU vU ha ma k (s + 1) (addM p' (U.map (scaleR (0 - u)))) (acc ++ [0 - u]) res (some (nD s)) (some (oneD (0 - u))) h ⟨hadd.1, hadd.2⟩ m2 (by omega) (by omega) (by simp [hal])
    refine ⟨e3, e4', e5', ?_, by omega⟩
    have n4 : n ≤ 4 := by omega
    -- 1
    have s1 : sAssign (cCall mat_mulF (cCons (cVar 0) (cCons (cVar 3) cNil))) (tVar 3) [some (matO a), some (nD n), some (.ref σ.length), some (matO p), some (nD s), e5] (σ ++ [acc.map oneD]) =
        some (.next, [some (matO a), some (nD n), some (.ref σ.length), some (matO p'), some (nD s), e5], σ ++ [acc.map oneD]) :=
      assign_run (call2_run rfl rfl (by rw [← hp']; exact mat_mul_eq ha hp (by omega) n4 ma mp)) rfl
    -- 2
    have ht : small (trI p' n) = true := small_of (by have := trG_small m1 n 0 0; simp at this; unfold trI; omega)
    have hts : tiny (s : Int) = true := by unfold tiny; rw [Nat.blt_eq]; omega
    have s2 : sAssign (cCall rnegF (cCons (cCall rdivF (cCons (cCall traceF (cCons (cVar 3) cNil)) (cCons (cTup (cCons (cVar 4) (cCons (cK (.int 1)) cNil))) cNil))) cNil)) (tVar 5) [some (matO a), some (nD n), some (.ref σ.length), some (matO p'), some (nD s), e5] (σ ++ [acc.map oneD]) =
        some (.next, [some (matO a), some (nD n), some (.ref σ.length), some (matO p'), some (nD s), some (oneD (0 - u))], σ ++ [acc.map oneD]) := by
      refine assign_run (call1_run (p := oneD u) (call2_run (p := oneD (trI p' n)) (q := oneD (s : Int)) (call1_run rfl (trace_eq hsp' (by omega) n4 m1)) rfl (rdiv1 ht (by omega) hts g.1)) rneg1) rfl
    -- 3
    have s3 : sExpr (cApp (cVar 2) (cVar 5)) [some (matO a), some (nD n), some (.ref σ.length), some (matO p'), some (nD s), some (oneD (0 - u))] (σ ++ [acc.map oneD]) =
        some (.next, [some (matO a), some (nD n), some (.ref σ.length), some (matO p'), some (nD s), some (oneD (0 - u))], σ ++ [(acc ++ [0 - u]).map oneD]) := by
      refine expr_run ?_
      show ((σ ++ [acc.map oneD])[σ.length]?).bind _ = _
      rw [ap0]
      show (if okN (acc.map oneD) then _ else none) = _
      rw [if_pos (okN_of (by rw [List.length_map]; omega)), ap_set, List.map_append]; rfl
    -- 4
    have hsm : ∀ r ∈ U.map (scaleR (0 - u)), ∀ x ∈ r, small x = true := fun r hr x hx => by
      obtain ⟨q, hq, rfl⟩ := List.mem_map.mp hr
      obtain ⟨y, hy, rfl⟩ := List.mem_map.mp hx
      rcases vU q hq y hy with rfl | rfl
      · rw [Int.zero_mul]; rfl
      · rw [Int.one_mul]; exact small_mid g.2
    have s4 : sAssign (cCall mat_addF (cCons (cVar 3) (cCons (cCall mat_scaleF (cCons (cCall unit_matrixF (cCons (cVar 1) cNil)) (cCons (cVar 5) cNil))) cNil))) (tVar 3) [some (matO a), some (nD n), some (.ref σ.length), some (matO p'), some (nD s), some (oneD (0 - u))] (σ ++ [(acc ++ [0 - u]).map oneD]) =
        some (.next, [some (matO a), some (nD n), some (.ref σ.length), some (matO (addM p' (U.map (scaleR (0 - u))))), some (nD s), some (oneD (0 - u))], σ ++ [(acc ++ [0 - u]).map oneD]) := by
      refine assign_run (call2_run rfl (call2_run (call1_run rfl (hU _)) rfl (scale_eq (fun r hr => ⟨by rw [sU.row r hr]; omega, fun x hx => by rcases vU r hr x hx with rfl | rfl <;> rfl⟩) (by rw [sU.len]; omega))) (mat_add_eq hsp' hsc hn (fun r hr x hx => small_mid (midM_iff m1 r hr x hx)) hsm)) rfl
    have hB : chB [some (matO a), some (nD n), some (.ref σ.length), some (matO p), some (nD s), e5] (σ ++ [acc.map oneD]) =
        some (.next, [some (matO a), some (nD n), some (.ref σ.length), some (matO (addM p' (U.map (scaleR (0 - u))))), some (nD s), some (oneD (0 - u))], σ ++ [(acc ++ [0 - u]).map oneD]) :=
      (bCons_next s1).trans ((bCons_next s2).trans ((bCons_next s3).trans ((bCons_next s4).trans rfl)))
    rw [show (List.range' s (k + 1)).map nD = nD s :: (List.range' (s + 1) k).map nD from rfl, forL_next (show tVar 4 (nD s) _ _ = some (_, _) from rfl) hB]
    exact ih
theorem charpoly_eq {n : Nat} {U a : List (List Int)} {res : List Int} (I : Inv σ) (hn : n = 3 ∨ n = 4) (hU : ∀ τ, unit_matrixF [nD n] τ = some (matO U, τ)) (sU : Sq n U) (vU : ∀ r ∈ U, ∀ x ∈ r, x = 0 ∨ x = 1) (mU : midM U = true) (ha : Sq n a) (ma : midM a = true)
    (h : charI n U a n 1 U [1] = some res) : charpolyF [matO a] σ = some (.lst (res.reverse.map oneD), σ) := by
  obtain ⟨e3, e4, e5, hl, hrl⟩ := char_loop (σ := σ) hn hU sU vU ha ma n 1 U [1] res none none h sU mU (Nat.le_refl _) (by omega) rfl
  have s1 : sAssign (c1 lenD (cVar 0)) (tVar 1) [some (matO a), none, none, none, none, none] σ = some (.next, [some (matO a), some (nD n), none, none, none, none], σ) := assign_run (c1_run rfl (lenO ha (by omega))) rfl
  have s2 : sExpr (cCall need_shapeF (cCons (c2 eqD (cVar 1) (c2 idxD (cCall shapeF (cCons (cVar 0) cNil)) (cK (.int 1)))) (cCons (cK (.str (Str.ofString "a polynomial of no square"))) cNil))) [some (matO a), some (nD n), none, none, none, none] σ = some (.next, [some (matO a), some (nD n), none, none, none, none], σ) := by
    refine need_run (c2_run (q := nD n) rfl (c2_run (call1_run rfl (shapeO ha (by omega) (by omega))) rfl rfl) ?_) rfl
    show some (D.bool ((n : Int) == (n : Int)), _) = _
    rw [beq_self_eq_true]
  have s3 : sAssign (cTup (cCons (cRef (cCons (cK (.tup [.int 1, .int 1])) cNil)) (cCons (cCall unit_matrixF (cCons (cVar 1) cNil)) cNil))) (tTup [(tVar 2), (tVar 3)]) [some (matO a), some (nD n), none, none, none, none] σ =
      some (.next, [some (matO a), some (nD n), some (.ref σ.length), some (matO U), none, none], σ ++ [[(1 : Int)].map oneD]) := by
    refine assign_run (d := .tup [.ref σ.length, matO U]) (σ' := σ ++ [[(1 : Int)].map oneD]) ?_ rfl
    unfold cTup
    have e1 : cRef (cCons (cK (.tup [.int 1, .int 1])) cNil) [some (matO a), some (nD n), none, none, none, none] σ = some (.ref σ.length, σ ++ [[(1 : Int)].map oneD]) := rfl
    have e2 : cCons (cCall unit_matrixF (cCons (cVar 1) cNil)) cNil [some (matO a), some (nD n), none, none, none, none] (σ ++ [[(1 : Int)].map oneD]) = some ([matO U], σ ++ [[(1 : Int)].map oneD]) := cons_run (call1_run rfl (hU _)) rfl
    have e3 : cCons (cRef (cCons (cK (.tup [.int 1, .int 1])) cNil)) (cCons (cCall unit_matrixF (cCons (cVar 1) cNil)) cNil) [some (matO a), some (nD n), none, none, none, none] σ = some ([.ref σ.length, matO U], σ ++ [[(1 : Int)].map oneD]) := by
      show ((cRef (cCons (cK (.tup [.int 1, .int 1])) cNil) [some (matO a), some (nD n), none, none, none, none] σ).bind fun p => (cCons (cCall unit_matrixF (cCons (cVar 1) cNil)) cNil [some (matO a), some (nD n), none, none, none, none] p.2).bind fun q => some (p.1 :: q.1, q.2)) = _
      rw [e1]
      simp only [Option.bind_some]
      rw [e2]; rfl
    rw [e3]; rfl
  have s4 : sFor (iRng2 (cK (.int 1)) (c2 addD (cVar 1) (cK (.int 1)))) (tVar 4) chB [some (matO a), some (nD n), some (.ref σ.length), some (matO U), none, none] (σ ++ [[(1 : Int)].map oneD]) =
      some (.next, [some (matO a), some (nD n), some (.ref σ.length), e3, e4, e5], σ ++ [res.map oneD]) := by
    unfold sFor
    have hi : c2 addD (cVar 1) (cK (.int 1)) [some (matO a), some (nD n), some (.ref σ.length), some (matO U), none, none] (σ ++ [[(1 : Int)].map oneD]) = some (nD (n + 1), σ ++ [[(1 : Int)].map oneD]) := by
      rcases hn with rfl | rfl <;> rfl
    rw [rng2_run (a := 1) rfl hi (by omega) (by omega)]
    exact hl
  have s5 : sExpr (cRev (cVar 2)) [some (matO a), some (nD n), some (.ref σ.length), e3, e4, e5] (σ ++ [res.map oneD]) = some (.next, [some (matO a), some (nD n), some (.ref σ.length), e3, e4, e5], σ ++ [res.reverse.map oneD]) := by
    refine expr_run ?_
    show ((σ ++ [res.map oneD])[σ.length]?).bind _ = _
    rw [ap0]
    show (if okN (res.map oneD) then _ else none) = _
    rw [if_pos (okN_of (by rw [List.length_map]; omega)), ap_set, List.map_reverse]
  have hc : c_charpoly [some (matO a), none, none, none, none, none] σ = some (.ret (.ref σ.length), [some (matO a), some (nD n), some (.ref σ.length), e3, e4, e5], σ ++ [res.reverse.map oneD]) :=
    (bCons_next s1).trans ((bCons_next s2).trans ((bCons_next s3).trans ((bCons_next s4).trans ((bCons_next s5).trans rfl))))
  refine mkFn_run rfl hc (finish_inv I (by simp) ?_)
  unfold frz
  dsimp only
  rw [if_neg (Nat.lt_irrefl _), ap0]
  simp only [Option.bind_some]
  rw [omap_self fun d hd => frz_nr (by obtain ⟨r, _, rfl⟩ := List.mem_map.mp hd; rfl)]; rfl
end
theorem unit3 (τ : Sto) : unit_matrixF [nD 3] τ = some (matO [[1, 0, 0], [0, 1, 0], [0, 0, 1]], τ) := ret_self (Γ' := [some (nD 3)]) rfl rfl
theorem unit4 (τ : Sto) : unit_matrixF [nD 4] τ = some (matO [[1, 0, 0, 0], [0, 1, 0, 0], [0, 0, 1, 0], [0, 0, 0, 1]], τ) := ret_self (Γ' := [some (nD 4)]) rfl rfl
end Mine
-- H12
set_option maxHeartbeats 4000000
namespace Mine
open PySem PySem.W PyProof.Rows
noncomputable def runX (X : Option (Fl × Gam × Sto)) : Option (D × Sto) := X.bind fun r => match r.1 with
  | .ret d => (frz 8 r.2.2 1 d).map fun d' => (d', r.2.2.take 1)
  | _ => none
theorem omap_id {α : Type} {f : α → Option α} : ∀ {l m : List α}, (∀ a b, a ∈ l → f a = some b → b = a) → omap f l = some m → m = l
  | [], m, _, e => by cases e; rfl
  | a :: l, m, h, e => by
    simp only [omap, Option.bind_eq_some_iff, Option.map_eq_some_iff] at e
    obtain ⟨b, hb, m', hm, rfl⟩ := e
    rw [h a b (.head _) hb, omap_id (fun a b ha => h a b (.tail _ ha)) hm]
theorem frz_id {σ : Sto} {n : Nat} (hn : σ.length ≤ n) : ∀ (f : Nat) (d d' : D), frz f σ n d = some d' → d' = d
  | 0, d, d', e => by cases e
  | f + 1, d, d', e => by
    unfold frz at e
    cases d with
    | tup l =>
      simp only [Option.map_eq_some_iff] at e
      obtain ⟨m, hm, rfl⟩ := e
      rw [omap_id (fun a b _ h => frz_id hn f a b h) hm]
    | lst l =>
      simp only [Option.map_eq_some_iff] at e
      obtain ⟨m, hm, rfl⟩ := e
      rw [omap_id (fun a b _ h => frz_id hn f a b h) hm]
    | scr l =>
      simp only [Option.map_eq_some_iff] at e
      obtain ⟨m, hm, rfl⟩ := e
      rw [omap_id (fun a b _ h => frz_id hn f a b h) hm]
    | ref k =>
      dsimp only at e
      split at e
      · cases e; rfl
      · rw [List.getElem?_eq_none (by omega)] at e; cases e
    | _ => cases e; rfl
theorem fn_runX {k m : Nat} {c : SCmd} {ds : List D} {d' : D} {L : List D} {s s' : Int} (hL : IntsL L) (hk : ds.length = k) (h : runX (c (ds.map some ++ List.replicate (m - k) none) (pool L s)) = some (d', pool L s')) :
    mkFn k m c ds (pool L s) = some (d', pool L s') := by
  simp only [runX, Option.bind_eq_some_iff] at h
  obtain ⟨⟨fl, Γ', σ'⟩, hc, h⟩ := h
  dsimp only at h
  split at h
  case h_2 => cases h
  rename_i d
  simp only [Option.map_eq_some_iff] at h
  obtain ⟨d₁, hf, e⟩ := h
  simp only [Prod.mk.injEq] at e
  obtain ⟨rfl, ht⟩ := e
  refine mkFn_run hk hc ?_
  have hlen : (pool L s).length = 1 := rfl
  have e2 : σ' = pool L s' ++ σ'.drop 1 := by
    have := List.take_append_drop 1 σ'
    rw [ht] at this
    exact this.symm
  rw [hlen]
  by_cases hd : σ'.drop 1 = []
  · rw [hd, List.append_nil] at e2
    rw [e2] at hf ⊢
    rw [frz_id (σ := pool L s') (Nat.le_refl 1) 8 d d₁ hf]
    rfl
  · have := finish_inv (σ := pool L s') (τ := σ'.drop 1) (d := d) (d' := d₁) (inv_pool hL) hd (by rw [← e2]; exact hf)
    rw [← e2] at this
    exact this
noncomputable def ln (i j : Nat) (w : Int) : D := .tup [nD i, nD j, .int w]
noncomputable def lines3 (a b c : Int) : List D := [ln 0 1 a, ln 0 2 b, ln 1 2 c]
noncomputable def lines4 (a b c d e f : Int) : List D := [ln 0 1 a, ln 0 2 b, ln 0 3 c, ln 1 2 d, ln 1 3 e, ln 2 3 f]
noncomputable def imatD (m : List (List Int)) : D := .lst (m.map fun r => .lst (r.map D.int))
noncomputable def waysD (l : List (List Nat)) : D := .lst (l.map fun r => .lst (r.map nD))
end Mine
-- H13
set_option maxHeartbeats 4000000
namespace Mine
open PySem PySem.W PyProof.Rows
section
variable {σ : Sto} {Γ : Gam}
theorem comp_map1 {α : Type} {enc : α → D} {g : α → D} {e : Cmd} : ∀ (l : List α) (o : Option D), (∀ x ∈ l, e (Γ.set 1 (some (enc x))) σ = some (g x, σ)) → ∃ Γ', compLL (tVar 1) (fElt e) (l.map enc) (Γ.set 1 o) σ = some (l.map g, Γ', σ)
  | [], o, _ => ⟨_, rfl⟩
  | x :: l, o, H => by
    obtain ⟨Γ', ih⟩ := comp_map1 l (some (enc x)) fun y hy => H y (.tail _ hy)
    refine ⟨Γ', ?_⟩
    rw [List.map_cons, compLL, show tVar 1 (enc x) (Γ.set 1 o) σ = some (Γ.set 1 (some (enc x)), σ) by unfold tVar; rw [List.set_set]]
    simp only [Option.bind_some]
    unfold fElt
    rw [H x (.head _)]
    simp only [Option.map_some, Option.bind_some]
    unfold fElt at ih
    rw [ih]; rfl
theorem comp_if1 {α : Type} {enc : α → D} {g : α → D} {p : α → Bool} {q : QCmd} {e : Cmd} : ∀ (l : List α) (o : Option D), (∀ x ∈ l, q (Γ.set 1 (some (enc x))) σ = some (p x, σ) ∧ (p x = true → e (Γ.set 1 (some (enc x))) σ = some (g x, σ))) →
    ∃ Γ', compLL (tVar 1) (fIf q e) (l.map enc) (Γ.set 1 o) σ = some ((l.filter p).map g, Γ', σ)
  | [], o, _ => ⟨_, rfl⟩
  | x :: l, o, H => by
    obtain ⟨Γ', ih⟩ := comp_if1 l (some (enc x)) fun y hy => H y (.tail _ hy)
    refine ⟨Γ', ?_⟩
    have hx := H x (.head _)
    rw [List.map_cons, compLL, show tVar 1 (enc x) (Γ.set 1 o) σ = some (Γ.set 1 (some (enc x)), σ) by unfold tVar; rw [List.set_set]]
    simp only [Option.bind_some]
    unfold fIf
    rw [hx.1]
    simp only [Option.bind_some]
    unfold fIf at ih
    cases hp : p x with
    | true =>
      simp only [if_true]
      rw [hx.2 hp]
      simp only [Option.map_some, Option.bind_some]
      rw [ih, List.filter_cons, if_pos hp]; rfl
    | false =>
      simp only [Bool.false_eq_true, if_false, Option.bind_some]
      rw [ih, List.filter_cons, if_neg (by rw [hp]; simp)]; rfl
noncomputable abbrev Line := Nat × Nat × Int
noncomputable def lnD (l : Line) : D := ln l.1 l.2.1 l.2.2
noncomputable def linesD (l : List Line) : List D := l.map lnD
noncomputable def wt (l : List Line) (i : Nat) : Int := ((l[i]?).map fun x => x.2.2).getD 0
theorem line_idx {ls : List Line} {i : Nat} {a b : Cmd} (hi : i < ls.length) (hl : ls.length ≤ 10000) (ha : a Γ σ = some (.lst (linesD ls), σ)) (hb : b Γ σ = some (nD i, σ)) : c2 idxD (c2 idxD a b) (cK (.int 2)) Γ σ = some (.int (wt ls i), σ) := by
  obtain ⟨x, hx⟩ : ∃ x, ls[i]? = some x := ⟨_, List.getElem?_eq_getElem hi⟩
  have : wt ls i = x.2.2 := by unfold wt; rw [hx]; rfl
  rw [this]
  exact c2_run (c2_run ha hb (idx_lst (l := linesD ls) (d := lnD x) (by unfold linesD; rw [List.getElem?_map, hx]; rfl) (by omega))) rfl rfl
noncomputable def worthG (ls : List Line) : Int → List Nat → Int
  | acc, [] => acc
  | acc, i :: ix => worthG ls (acc * wt ls i) ix
noncomputable def worthI (ls : List Line) (ix : List Nat) : Int := worthG ls 1 ix
noncomputable def wB : SCmd := bCons (sAssign (c2 mulD (cVar 2) (c2 idxD (c2 idxD (cVar 0) (cVar 3)) (cK (.int 2)))) (tVar 2)) bNil
theorem worth_loop {ls : List Line} (hl : ls.length ≤ 10000) (hw : ∀ i, (wt ls i).natAbs ≤ 3) : ∀ (ix : List Nat) (acc : Int) (e1 e3 : Option D), (∀ i ∈ ix, i < ls.length) → acc.natAbs * 3 ^ ix.length < 4611686018427387904 →
    ∃ e3', forL (tVar 3) wB (ix.map nD) [some (.lst (linesD ls)), e1, some (.int acc), e3] σ = some (.next, [some (.lst (linesD ls)), e1, some (.int (worthG ls acc ix)), e3'], σ) ∧ (worthG ls acc ix).natAbs ≤ acc.natAbs * 3 ^ ix.length
  | [], acc, e1, e3, _, _ => ⟨e3, rfl, by simp [worthG]⟩
  | i :: ix, acc, e1, e3, hi, hb => by
    rw [List.length_cons, Nat.pow_succ, Nat.mul_comm (3 ^ ix.length) 3, ← Nat.mul_assoc] at hb
    have h3 : (acc * wt ls i).natAbs ≤ acc.natAbs * 3 := by rw [Int.natAbs_mul]; exact Nat.mul_le_mul (Nat.le_refl _) (hw i)
    have h4 : (acc * wt ls i).natAbs * 3 ^ ix.length ≤ acc.natAbs * 3 * 3 ^ ix.length := Nat.mul_le_mul h3 (Nat.le_refl _)
    obtain ⟨e3', ih, ihb⟩ := worth_loop hl hw ix (acc * wt ls i) e1 (some (nD i)) (fun j hj => hi j (.tail _ hj)) (by omega)
    have hp : 0 < 3 ^ ix.length := Nat.pow_pos (by omega)
    have hacc : acc.natAbs < 4611686018427387904 := by
      have : acc.natAbs * 1 ≤ acc.natAbs * 3 * 3 ^ ix.length := by rw [Nat.mul_assoc]; exact Nat.mul_le_mul (Nat.le_refl _) (by omega)
      omega
    have hB : wB [some (.lst (linesD ls)), e1, some (.int acc), some (nD i)] σ = some (.next, [some (.lst (linesD ls)), e1, some (.int (acc * wt ls i)), some (nD i)], σ) :=
      (bCons_next (assign_run (mul_run rfl (line_idx (hi i (.head _)) hl rfl rfl) (small_of hacc)) rfl)).trans rfl
    refine ⟨e3', ?_, ?_⟩
    · rw [List.map_cons, forL_next (show tVar 3 (nD i) _ _ = some (_, _) from rfl) hB]
      exact ih
    · rw [List.length_cons, Nat.pow_succ, Nat.mul_comm (3 ^ ix.length) 3, ← Nat.mul_assoc]
      show (worthG ls (acc * wt ls i) ix).natAbs ≤ _
      omega
theorem worth_eq {ls : List Line} {ix : List Nat} (hl : ls.length ≤ 10000) (hw : ∀ i, (wt ls i).natAbs ≤ 3) (hi : ∀ i ∈ ix, i < ls.length) (hx : ix.length ≤ 3) : law_worthF [.lst (linesD ls), .lst (ix.map nD)] σ = some (.int (worthI ls ix), σ) ∧ (worthI ls ix).natAbs ≤ 27 := by
  have h3 : 3 ^ ix.length ≤ 3 ^ 3 := Nat.pow_le_pow_right (by omega) hx
  obtain ⟨e3, h, hb⟩ := worth_loop (σ := σ) hl hw ix 1 (some (.lst (ix.map nD))) none hi (by simp; omega)
  have s1 : sAssign (cK (.int 1)) (tVar 2) [some (.lst (linesD ls)), some (.lst (ix.map nD)), none, none] σ = some (.next, [some (.lst (linesD ls)), some (.lst (ix.map nD)), some (.int 1), none], σ) := rfl
  have s2 : sFor (iLst (cVar 1)) (tVar 3) wB [some (.lst (linesD ls)), some (.lst (ix.map nD)), some (.int 1), none] σ = some (.next, [some (.lst (linesD ls)), some (.lst (ix.map nD)), some (.int (worthI ls ix)), e3], σ) := h
  refine ⟨ret_self (Γ' := [some (.lst (linesD ls)), some (.lst (ix.map nD)), some (.int (worthI ls ix)), e3]) rfl ((bCons_next s1).trans ((bCons_next s2).trans rfl)), ?_⟩
  unfold worthI
  simp at hb
  omega
-- sums
theorem intsOf_map : ∀ (l : List Int), intsOf (l.map D.int) = some l
  | [] => rfl
  | x :: l => by rw [List.map_cons, intsOf, intsOf_map l]; rfl
theorem sumOk_of {B : Nat} : ∀ (l : List Int) (acc : Int), (∀ x ∈ l, x.natAbs ≤ B) → acc.natAbs + (l.length + 1) * B < 4611686018427387904 → sumOk l acc = true
  | [], acc, _, _ => rfl
  | x :: l, acc, h, hb => by
    have hx := h x (.head _)
    rw [List.length_cons, Nat.add_mul, Nat.add_mul] at hb
    have h1 : small x = true := small_of (by omega)
    have h2 : small (acc + x) = true := small_of (by omega)
    unfold sumOk
    rw [h1, h2, sumOk_of (B := B) l (acc + x) (fun y hy => h y (.tail _ hy)) (by rw [Nat.add_mul]; omega)]; rfl
theorem sum_eq {l : List Int} {B : Nat} (h : ∀ x ∈ l, x.natAbs ≤ B) (hb : (l.length + 1) * B < 4611686018427387904) : sumD (.lst (l.map D.int)) σ = some (.int l.sum, σ) := by
  show (intsOf (l.map D.int)).bind _ = _
  rw [intsOf_map]
  show (if sumOk l 0 then _ else none) = _
  rw [if_pos (sumOk_of (B := B) l 0 h (by simp; exact hb))]
end
end Mine
-- H14
namespace Mine
open PySem PySem.W PyProof.Rows
set_option maxHeartbeats 4000000
noncomputable def lawS0 : SCmd := (sAssign (cRef (cCons (cComp [none, none] (iLst (c2 uptoD (cVar 0) (cK (.int 10)))) (tVar 1) (fElt (c1 intD (cVar 1)))) (cCons (cK (.int 0)) cNil))) (tVar 1))
noncomputable def lawS1 : SCmd := (sAssign (c2 addD (cK (.int 3)) (cCall law_drawF (cCons (cVar 1) (cCons (cK (.int 2)) cNil)))) (tVar 2))
noncomputable def lawS2 : SCmd := (sAssign (cComp [none, none, none, some 2] (iRng1 (cVar 2)) (tVar 1) (fIn (iRng2 (c2 addD (cVar 1) (cK (.int 1))) (cVar 3)) (tVar 2) (fElt (cTup (cCons (cVar 1) (cCons (cVar 2) cNil)))))) (tVar 5))
noncomputable def lawS3 : SCmd := (sAssign (cComp [none, none, none, some 1] (iLst (cVar 5)) (tTup [(tVar 1), (tVar 2)]) (fElt (cTup (cCons (cVar 1) (cCons (cVar 2) (cCons (c2 addD (cCall law_drawF (cCons (cVar 3) (cCons (cK (.int 3)) cNil))) (cIf (qVal (c2 eqD (cVar 2) (c2 addD (cVar 1) (cK (.int 1))))) (cK (.int 1)) (cK (.int 0)))) cNil)))))) (tVar 6))
noncomputable def lawS4 : SCmd := (sAssign (cTup (cCons (cCall law_drawF (cCons (cVar 1) (cCons (c1 lenD (cVar 5)) cNil))) (cCons (c2 addD (cK (.int 1)) (cCall law_drawF (cCons (cVar 1) (cCons (cK (.int 3)) cNil)))) cNil))) (tTup [(tVar 7), (tVar 8)]))
noncomputable def lawS5 : SCmd := (sAssign (cTup (cCons (cCall law_matrixF (cCons (cVar 2) (cCons (cVar 6) cNil))) (cCons (cCall law_waysF (cCons (cVar 2) (cCons (cVar 6) cNil))) cNil))) (tTup [(tVar 9), (tVar 10)]))
noncomputable def lawS6 : SCmd := (sAssign (c1 sumD (cComp [none, none, some 6] (iLst (cVar 10)) (tVar 1) (fElt (cCall law_worthF (cCons (cVar 2) (cCons (cVar 1) cNil)))))) (tVar 11))
noncomputable def lawS7 : SCmd := (sAssign (cComp [none, none, some 9] (iLst (cVar 5)) (tVar 1) (fElt (cCall determinantF (cCons (cCall law_withoutF (cCons (cVar 2) (cCons (cVar 1) cNil))) cNil)))) (tVar 12))
noncomputable def lawS8 : SCmd := (sIf (qVal (c2 neD (cComp [none, none, some 9, some 11] (iRng1 (cVar 2)) (tVar 1) (fIf (qVal (c2 neD (cCall determinantF (cCons (cCall law_withoutF (cCons (cVar 2) (cCons (cLst (cCons (cVar 1) cNil)) cNil))) cNil)) (cVar 3))) (cVar 1))) (cLst cNil))) (bCons (sRet (cK (.bool false)))
  bNil) bNil)
noncomputable def lawS9 : SCmd := (sAssign (cCall inverseF (cCons (cCall from_wholeF (cCons (cCall law_withoutF (cCons (cVar 9) (cCons (cLst (cCons (cK (.int 0)) cNil)) cNil))) cNil)) cNil)) (tVar 13))
noncomputable def lawS10 : SCmd := (sIf (qVal (c2 isNoneD (cVar 13) (cK .none))) (bCons (sRet (cK (.bool false)))
  bNil) bNil)
noncomputable def lawB0 : SCmd := (sIf (qVal (c2 neD (c2 mulD (c2 idxD (c2 idxD (cVar 6) (cVar 14)) (cK (.int 2))) (c2 idxD (cVar 12) (cVar 14))) (c1 sumD (cComp [none, none, some 14, some 6] (iLst (cVar 10)) (tVar 1) (fIf (qVal (c2 inD (cVar 2) (cVar 1))) (cCall law_worthF (cCons (cVar 3) (cCons (cVar 1) cNil)))))))) (bCons (sRet (cK (.bool false)))
  bNil) bNil)
noncomputable def lawB1 : SCmd := (sIf (qVal (c2 eqD (cVar 3) (cK (.int 0)))) (bCons (sAssign (c2 idxD (c2 idxD (cVar 13) (c2 subD (cVar 4) (cK (.int 1)))) (c2 subD (cVar 4) (cK (.int 1)))) (tTup [(tVar 15), (tVar 16)]))
  bNil) (bCons (sAssign (cTup (cCons (c2 idxD (c2 idxD (cVar 13) (c2 subD (cVar 3) (cK (.int 1)))) (c2 subD (cVar 3) (cK (.int 1)))) (cCons (c2 idxD (c2 idxD (cVar 13) (c2 subD (cVar 4) (cK (.int 1)))) (c2 subD (cVar 4) (cK (.int 1)))) (cCons (c2 idxD (c2 idxD (cVar 13) (c2 subD (cVar 3) (cK (.int 1)))) (c2 subD (cVar 4) (cK (.int 1)))) cNil)))) (tTup [(tVar 17), (tVar 18), (tVar 19)]))
  (bCons (sAssign (c2 mulD (c2 mulD (c2 idxD (cVar 17) (cK (.int 1))) (c2 idxD (cVar 18) (cK (.int 1)))) (c2 idxD (cVar 19) (cK (.int 1)))) (tVar 16))
  (bCons (sAssign (c2 subD (c2 mulD (c2 addD (c2 mulD (c2 idxD (cVar 17) (cK (.int 0))) (c2 idxD (cVar 18) (cK (.int 1)))) (c2 mulD (c2 idxD (cVar 18) (cK (.int 0))) (c2 idxD (cVar 17) (cK (.int 1))))) (c2 idxD (cVar 19) (cK (.int 1)))) (c2 mulD (c2 mulD (c2 mulD (cK (.int 2)) (c2 idxD (cVar 19) (cK (.int 0)))) (c2 idxD (cVar 17) (cK (.int 1)))) (c2 idxD (cVar 18) (cK (.int 1))))) (tVar 15))
  bNil))))
noncomputable def lawB2 : SCmd := (sIf (qNot (qVal (cCall law_sameF (cCons (cTup (cCons (cVar 15) (cCons (cVar 16) cNil))) (cCons (c2 idxD (cVar 12) (cVar 14)) (cCons (cVar 11) cNil)))))) (bCons (sRet (cK (.bool false)))
  bNil) bNil)
noncomputable def lawB : SCmd := (bCons lawB0 (bCons lawB1 (bCons lawB2 bNil)))
noncomputable def lawS11 : SCmd := sFor (iEnm (cVar 5)) (tTup [(tVar 14), (tTup [(tVar 3), (tVar 4)])]) lawB
noncomputable def lawS12 : SCmd := (sIf (qVal (c2 neD (c1 sumD (cComp [none, none, none, some 6] (iEnm (cVar 12)) (tTup [(tVar 1), (tVar 2)]) (fElt (c2 mulD (c2 idxD (c2 idxD (cVar 3) (cVar 1)) (cK (.int 2))) (cVar 2))))) (c2 mulD (c2 subD (cVar 2) (cK (.int 1))) (cVar 11)))) (bCons (sRet (cK (.bool false)))
  bNil) bNil)
noncomputable def lawS13 : SCmd := (sAssign (c2 idxD (cVar 5) (cVar 7)) (tTup [(tVar 20), (tVar 21)]))
noncomputable def lawS14 : SCmd := (sAssign (cCall law_matrixF (cCons (cVar 2) (cCons (c2 addD (cVar 6) (cLst (cCons (cTup (cCons (cVar 20) (cCons (cVar 21) (cCons (cVar 8) cNil)))) cNil))) cNil))) (tVar 22))
noncomputable def lawS15 : SCmd := (sIf (qVal (c2 neD (cCall determinantF (cCons (cCall law_withoutF (cCons (cVar 22) (cCons (cLst (cCons (cK (.int 0)) cNil)) cNil))) cNil)) (c2 addD (cVar 11) (c2 mulD (cVar 8) (c2 idxD (cVar 12) (cVar 7)))))) (bCons (sRet (cK (.bool false)))
  bNil) bNil)
noncomputable def lawS16 : SCmd := (sAssign (cTup (cCons (cCall law_stepsF (cCons (cVar 9) (cCons (cVar 20) (cCons (cVar 21) cNil)))) (cCons (cCall law_stepsF (cCons (cVar 9) (cCons (cVar 21) (cCons (cVar 20) cNil)))) cNil))) (tTup [(tVar 23), (tVar 24)]))
noncomputable def lawS17 : SCmd := (sIf (qOr (qVal (c2 isNoneD (cVar 23) (cK .none))) (qVal (c2 isNoneD (cVar 24) (cK .none)))) (bCons (sRet (cK (.bool false)))
  bNil) bNil)
noncomputable def lawS18 : SCmd := (sAssign (cTup (cCons (c2 addD (c2 mulD (c2 idxD (cVar 23) (cK (.int 0))) (c2 idxD (cVar 24) (cK (.int 1)))) (c2 mulD (c2 idxD (cVar 24) (cK (.int 0))) (c2 idxD (cVar 23) (cK (.int 1))))) (cCons (c2 mulD (c2 idxD (cVar 23) (cK (.int 1))) (c2 idxD (cVar 24) (cK (.int 1)))) cNil))) (tVar 25))
noncomputable def lawS19 : SCmd := (sIf (qNot (qVal (cCall law_sameF (cCons (cVar 25) (cCons (c2 mulD (c2 mulD (cK (.int 2)) (c1 sumD (cComp [none, none] (iLst (cVar 6)) (tVar 1) (fElt (c2 idxD (cVar 1) (cK (.int 2))))))) (c2 idxD (cVar 12) (cVar 7))) (cCons (cVar 11) cNil)))))) (bCons (sRet (cK (.bool false)))
  bNil) bNil)
noncomputable def lawS20 : SCmd := (sAssign (c2 subD (cK (.int 1)) (c2 mulD (cK (.int 2)) (c2 modD (cVar 2) (cK (.int 2))))) (tVar 26))
noncomputable def lawS21 : SCmd := (sRet (c2 eqD (c2 uptoD (cCall charpolyF (cCons (cCall from_wholeF (cCons (cVar 9) cNil)) cNil)) (cK (.int 3))) (cLst (cCons (cTup (cCons (cK (.int 0)) (cCons (cK (.int 1)) cNil))) (cCons (cTup (cCons (c2 subD (cK (.int 0)) (c2 mulD (c2 mulD (cVar 26) (cVar 2)) (cVar 11))) (cCons (cK (.int 1)) cNil))) (cCons (cTup (cCons (c2 mulD (cVar 26) (c1 sumD (cVar 12))) (cCons (cK (.int 1)) cNil))) cNil))))))
noncomputable def c_rest : SCmd := (bCons lawS5 (bCons lawS6 (bCons lawS7 (bCons lawS8 (bCons lawS9 (bCons lawS10 (bCons lawS11 (bCons lawS12 (bCons lawS13 (bCons lawS14 (bCons lawS15 (bCons lawS16 (bCons lawS17 (bCons lawS18 (bCons lawS19 (bCons lawS20 (bCons lawS21 bNil)))))))))))))))))
theorem c_law_split : c_law = (bCons lawS0 (bCons lawS1 (bCons lawS2 (bCons lawS3 (bCons lawS4 c_rest))))) := rfl
end Mine
-- H15
set_option maxHeartbeats 4000000
namespace Mine
open PySem PySem.W PyProof.Rows
section
variable {σ : Sto} {Γ : Gam}
theorem var_run {i : Nat} {d : D} (h : (Γ[i]?).join = some d) : cVar i Γ σ = some (d, σ) := by
  unfold cVar
  cases q : Γ[i]? with
  | none => rw [q] at h; cases h
  | some o => rw [q] at h; cases o with
    | none => cases h
    | some e => cases h; rfl
theorem gam1 {i : Nat} {d : D} (h : (Γ[i]?).join = some d) : gamOf [none, none, some i] Γ = [none, none, some d] := by simp [gamOf, h]
theorem gam2 {i j : Nat} {d e : D} (h : (Γ[i]?).join = some d) (h' : (Γ[j]?).join = some e) : gamOf [none, none, some i, some j] Γ = [none, none, some d, some e] := by simp [gamOf, h, h']
theorem gam3 {i : Nat} {d : D} (h : (Γ[i]?).join = some d) : gamOf [none, none, none, some i] Γ = [none, none, none, some d] := by simp [gamOf, h]
structure LW (ls : List Line) (ways : List (List Nat)) : Prop where
  len : ls.length ≤ 6
  w3 : ∀ i, (wt ls i).natAbs ≤ 3
  way : ∀ ix ∈ ways, ix.length ≤ 3 ∧ ∀ i ∈ ix, i < ls.length
  wlen : ways.length ≤ 16
theorem LW.sum {ls : List Line} {ways : List (List Nat)} (H : LW ls ways) {sub : List (List Nat)} (hs : ∀ ix ∈ sub, ix ∈ ways) (hl : sub.length ≤ 16) : sumD (.lst ((sub.map (worthI ls)).map D.int)) σ = some (.int (sub.map (worthI ls)).sum, σ) := by
  refine sum_eq (B := 27) (fun x hx => ?_) (by rw [List.length_map]; omega)
  obtain ⟨ix, hix, rfl⟩ := List.mem_map.mp hx
  have := H.way ix (hs ix hix)
  exact (worth_eq (σ := []) (by have := H.len; omega) H.w3 this.2 this.1).2
theorem LW.worth {ls : List Line} {ways : List (List Nat)} (H : LW ls ways) {ix : List Nat} (hs : ix ∈ ways) : law_worthF [.lst (linesD ls), .lst (ix.map nD)] σ = some (.int (worthI ls ix), σ) :=
  (worth_eq (by have := H.len; omega) H.w3 (H.way ix hs).2 (H.way ix hs).1).1
noncomputable def ixD (ix : List Nat) : D := .lst (ix.map nD)
theorem waysD_eq (ways : List (List Nat)) : waysD ways = .lst (ways.map ixD) := rfl
theorem whole_run {ls : List Line} {ways : List (List Nat)} (H : LW ls ways) (h6 : (Γ[6]?).join = some (.lst (linesD ls))) (h10 : (Γ[10]?).join = some (waysD ways)) :
    c1 sumD (cComp [none, none, some 6] (iLst (cVar 10)) (tVar 1) (fElt (cCall law_worthF (cCons (cVar 2) (cCons (cVar 1) cNil))))) Γ σ = some (.int (ways.map (worthI ls)).sum, σ) := by
  obtain ⟨Γ', hc⟩ := comp_map1 (Γ := [none, none, some (.lst (linesD ls))]) (σ := σ) (enc := ixD) (g := fun ix => .int (worthI ls ix)) (e := cCall law_worthF (cCons (cVar 2) (cCons (cVar 1) cNil))) ways none
    fun ix hix => call2_run rfl rfl (H.worth hix)
  refine c1_run (comp_run (items := ways.map ixD) ?_ (gam1 h6) hc (by rw [List.length_map]; have := H.wlen; omega)) ?_
  · unfold iLst; rw [var_run h10]; rfl
  · rw [show ways.map (fun ix => D.int (worthI ls ix)) = (ways.map (worthI ls)).map D.int by rw [List.map_map]; rfl]
    exact H.sum (fun _ h => h) H.wlen
noncomputable def hasI (i : Nat) (ix : List Nat) : Bool := ix.any (· == i)
theorem inI {i : Nat} {ix : List Nat} : inD (nD i) (ixD ix) σ = some (.bool (hasI i ix), σ) := by
  show ((intsOf (ix.map nD)).map fun ns => (D.bool (ns.any (· == (i : Int))), σ)) = _
  have h1 : intsOf (ix.map nD) = some (ix.map fun (k : Nat) => (k : Int)) := by
    have := intsOf_map (ix.map fun (k : Nat) => (k : Int))
    rw [List.map_map] at this
    exact this
  rw [h1]
  simp only [Option.map_some, List.any_map]
  congr 3
  unfold hasI
  refine List.any_congr rfl ?_
  intro k
  show ((k : Int) == (i : Int)) = (k == i)
  rw [Bool.eq_iff_iff, beq_iff_eq, beq_iff_eq]; omega
theorem part_run {ls : List Line} {ways : List (List Nat)} {i : Nat} (H : LW ls ways) (h6 : (Γ[6]?).join = some (.lst (linesD ls))) (h10 : (Γ[10]?).join = some (waysD ways)) (h14 : (Γ[14]?).join = some (nD i)) :
    c1 sumD (cComp [none, none, some 14, some 6] (iLst (cVar 10)) (tVar 1) (fIf (qVal (c2 inD (cVar 2) (cVar 1))) (cCall law_worthF (cCons (cVar 3) (cCons (cVar 1) cNil))))) Γ σ = some (.int ((ways.filter (hasI i)).map (worthI ls)).sum, σ) := by
  obtain ⟨Γ', hc⟩ := comp_if1 (Γ := [none, none, some (nD i), some (.lst (linesD ls))]) (σ := σ) (enc := ixD) (g := fun ix => .int (worthI ls ix)) (p := hasI i) (q := qVal (c2 inD (cVar 2) (cVar 1))) (e := cCall law_worthF (cCons (cVar 3) (cCons (cVar 1) cNil))) ways none
    fun ix hix => ⟨qv_run (c2_run rfl rfl inI), fun _ => call2_run rfl rfl (H.worth hix)⟩
  have hfl : (ways.filter (hasI i)).length ≤ 16 := Nat.le_trans (List.length_filter_le ..) H.wlen
  refine c1_run (comp_run (items := ways.map ixD) ?_ (gam2 h14 h6) hc (by rw [List.length_map]; omega)) ?_
  · unfold iLst; rw [var_run h10]; rfl
  · rw [show (ways.filter (hasI i)).map (fun ix => D.int (worthI ls ix)) = ((ways.filter (hasI i)).map (worthI ls)).map D.int by rw [List.map_map]; rfl]
    exact H.sum (fun _ h => (List.mem_filter.mp h).1) hfl
noncomputable def pairD (l : Line) : D := .tup [nD l.1, nD l.2.1]
theorem apart_run {ls : List Line} {A : D} {apf : Line → Int} (hl : ls.length ≤ 6) (h5 : (Γ[5]?).join = some (.lst (ls.map pairD))) (h9 : (Γ[9]?).join = some A)
    (F : ∀ l ∈ ls, ∃ X, law_withoutF [A, pairD l] σ = some (X, σ) ∧ determinantF [X] σ = some (.int (apf l), σ)) :
    cComp [none, none, some 9] (iLst (cVar 5)) (tVar 1) (fElt (cCall determinantF (cCons (cCall law_withoutF (cCons (cVar 2) (cCons (cVar 1) cNil))) cNil))) Γ σ = some (.lst ((ls.map apf).map D.int), σ) := by
  obtain ⟨Γ', hc⟩ := comp_map1 (Γ := [none, none, some A]) (σ := σ) (enc := pairD) (g := fun l => .int (apf l)) (e := cCall determinantF (cCons (cCall law_withoutF (cCons (cVar 2) (cCons (cVar 1) cNil))) cNil)) ls none
    fun l hl => by
      obtain ⟨X, h1, h2⟩ := F l hl
      exact call1_run (call2_run rfl rfl h1) h2
  rw [List.map_map]
  exact comp_run (items := ls.map pairD) (by unfold iLst; rw [var_run h5]; rfl) (gam1 h9) hc (by rw [List.length_map]; omega)
theorem knots_run {n : Nat} {A : D} {wh : Int} (hn : n ≤ 4) (h2 : (Γ[2]?).join = some (nD n)) (h9 : (Γ[9]?).join = some A) (h11 : (Γ[11]?).join = some (.int wh))
    (F : ∀ k, k < n → ∃ X, law_withoutF [A, .lst [nD k]] σ = some (X, σ) ∧ determinantF [X] σ = some (.int wh, σ)) : lawS8 Γ σ = some (.next, Γ, σ) := by
  obtain ⟨Γ', hc⟩ := comp_if1 (Γ := [none, none, some A, some (.int wh)]) (σ := σ) (enc := nD) (g := nD) (p := fun _ => false) (q := qVal (c2 neD (cCall determinantF (cCons (cCall law_withoutF (cCons (cVar 2) (cCons (cLst (cCons (cVar 1) cNil)) cNil))) cNil)) (cVar 3))) (e := cVar 1) (List.range' 0 n) none
    fun k hk => ⟨by
      obtain ⟨X, h1, h2⟩ := F k (by have := List.mem_range'_1.mp hk; omega)
      refine qv_run (c2_run (p := .int wh) (q := .int wh) (call1_run (call2_run rfl rfl h1) h2) rfl ?_)
      show some (D.bool (wh != wh), σ) = _
      rw [bne_self_eq_false], fun h => by cases h⟩
  have hf : (List.range' 0 n).filter (fun _ => false) = [] := by simp
  rw [hf] at hc
  have hx : cComp [none, none, some 9, some 11] (iRng1 (cVar 2)) (tVar 1) (fIf (qVal (c2 neD (cCall determinantF (cCons (cCall law_withoutF (cCons (cVar 2) (cCons (cLst (cCons (cVar 1) cNil)) cNil))) cNil)) (cVar 3))) (cVar 1)) Γ σ = some (.lst [], σ) :=
    comp_run (rng1_run (var_run h2) (by omega)) (gam2 h9 h11) hc (by simp)
  unfold lawS8
  have hq : qVal (c2 neD (cComp [none, none, some 9, some 11] (iRng1 (cVar 2)) (tVar 1) (fIf (qVal (c2 neD (cCall determinantF (cCons (cCall law_withoutF (cCons (cVar 2) (cCons (cLst (cCons (cVar 1) cNil)) cNil))) cNil)) (cVar 3))) (cVar 1))) (cLst cNil)) Γ σ = some (false, σ) :=
    qv_run (c2_run hx rfl rfl)
  rw [if_run hq]; rfl
noncomputable def wap (ls : List Line) : Nat → List Int → List Int
  | _, [] => []
  | j, a :: l => (wt ls j * a) :: wap ls (j + 1) l
theorem wap_comp {ls : List Line} (hl : ls.length ≤ 6) (w3 : ∀ i, (wt ls i).natAbs ≤ 3) : ∀ (ap : List Int) (j : Nat) (e0 e1 e2 : Option D), j + ap.length ≤ ls.length →
    ∃ Γ', compLL (tTup [tVar 1, tVar 2]) (fElt (c2 mulD (c2 idxD (c2 idxD (cVar 3) (cVar 1)) (cK (.int 2))) (cVar 2))) (enumL j (ap.map D.int)) [e0, e1, e2, some (.lst (linesD ls))] σ = some ((wap ls j ap).map D.int, Γ', σ)
  | [], j, e0, e1, e2, _ => ⟨_, rfl⟩
  | a :: ap, j, e0, e1, e2, h => by
    rw [List.length_cons] at h
    obtain ⟨Γ', ih⟩ := wap_comp hl w3 ap (j + 1) e0 (some (nD j)) (some (.int a)) (by omega)
    refine ⟨Γ', ?_⟩
    have hE : c2 mulD (c2 idxD (c2 idxD (cVar 3) (cVar 1)) (cK (.int 2))) (cVar 2) [e0, some (nD j), some (.int a), some (.lst (linesD ls))] σ = some (.int (wt ls j * a), σ) :=
      mul_run (line_idx (by omega) (by omega) rfl rfl) rfl (small_of (by have := w3 j; omega))
    show compLL _ _ (.tup [nD j, .int a] :: enumL (j + 1) (ap.map D.int)) _ σ = _
    rw [compLL, show tTup [tVar 1, tVar 2] (.tup [nD j, .int a]) [e0, e1, e2, some (.lst (linesD ls))] σ = some ([e0, some (nD j), some (.int a), some (.lst (linesD ls))], σ) from rfl]
    simp only [Option.bind_some]
    unfold fElt
    rw [hE]
    simp only [Option.map_some, Option.bind_some]
    unfold fElt at ih
    rw [ih]; rfl
theorem wap_len (ls : List Line) : ∀ (ap : List Int) (j : Nat), (wap ls j ap).length = ap.length
  | [], _ => rfl
  | a :: ap, j => by simp [wap, wap_len ls ap (j + 1)]
theorem total_run {ls : List Line} {ap : List Int} {n : Nat} {wh : Int} (hl : ls.length ≤ 6) (w3 : ∀ i, (wt ls i).natAbs ≤ 3) (ha : ap.length = ls.length) (h2 : (Γ[2]?).join = some (nD n)) (h6 : (Γ[6]?).join = some (.lst (linesD ls))) (h11 : (Γ[11]?).join = some (.int wh)) (h12 : (Γ[12]?).join = some (.lst (ap.map D.int)))
    (hb : ∀ x ∈ wap ls 0 ap, x.natAbs ≤ 1000000) (hn : n = 3 ∨ n = 4) (he : (wap ls 0 ap).sum = ((n : Int) - 1) * wh) : lawS12 Γ σ = some (.next, Γ, σ) := by
  obtain ⟨Γ', hc⟩ := wap_comp (σ := σ) hl w3 ap 0 none none none (by omega)
  have hx : c1 sumD (cComp [none, none, none, some 6] (iEnm (cVar 12)) (tTup [(tVar 1), (tVar 2)]) (fElt (c2 mulD (c2 idxD (c2 idxD (cVar 3) (cVar 1)) (cK (.int 2))) (cVar 2)))) Γ σ = some (.int (wap ls 0 ap).sum, σ) := by
    refine c1_run (comp_run (items := enumL 0 (ap.map D.int)) (by unfold iEnm; rw [var_run h12]; rfl) (gam3 h6) hc (by rw [List.length_map, wap_len]; omega)) ?_
    exact sum_eq (B := 1000000) hb (by rw [wap_len]; omega)
  have hy : c2 mulD (c2 subD (cVar 2) (cK (.int 1))) (cVar 11) Γ σ = some (.int (((n : Int) - 1) * wh), σ) := mul_run (sub_run (p := (n : Int)) (q := 1) (var_run h2) rfl) (var_run h11) (small_of (by omega))
  unfold lawS12
  have hq : qVal (c2 neD (c1 sumD (cComp [none, none, none, some 6] (iEnm (cVar 12)) (tTup [(tVar 1), (tVar 2)]) (fElt (c2 mulD (c2 idxD (c2 idxD (cVar 3) (cVar 1)) (cK (.int 2))) (cVar 2))))) (c2 mulD (c2 subD (cVar 2) (cK (.int 1))) (cVar 11))) Γ σ = some (false, σ) := by
    refine qv_run (c2_run hx hy ?_)
    rw [he]
    show some (D.bool ((((n : Int) - 1) * wh) != (((n : Int) - 1) * wh)), σ) = _
    rw [bne_self_eq_false]
  rw [if_run hq]; rfl
end
end Mine
-- H16
set_option maxHeartbeats 4000000
namespace Mine
open PySem PySem.W PyProof.Rows
noncomputable def tq (T : List (List Q)) (a b : Nat) : Q := (((T[a]?).getD [])[b]?).getD (0, 1)
noncomputable def toldD (T : List (List Q)) : D := .lst (T.map fun r => .lst (r.map qD))
noncomputable def pairOk (T : List (List Q)) (i j : Nat) (ap wh : Int) : Bool := match i with
  | 0 => (fun q : Q => small q.1 && small ap && (q.1 * wh == ap * q.2)) (tq T (j - 1) (j - 1))
  | i + 1 => (fun f s b : Q => small f.2 && small (f.2 * s.2) && small f.1 && small s.1 && small (f.1 * s.2 + s.1 * f.2) && small (2 * b.1) && small (2 * b.1 * f.2) && small ap &&
      (fun top : Int => small top && (top * wh == ap * (f.2 * s.2 * b.2))) ((f.1 * s.2 + s.1 * f.2) * b.2 - 2 * b.1 * f.2 * s.2)) (tq T i i) (tq T (j - 1) (j - 1)) (tq T i (j - 1))
structure SqT (m : Nat) (T : List (List Q)) : Prop where
  len : T.length = m
  row : ∀ r ∈ T, r.length = m
section
variable {σ : Sto} {Γ : Gam}
theorem told_idx {T : List (List Q)} {m a b : Nat} (hT : SqT m T) (ha : a < m) (hb : b < m) (hm : m ≤ 10000) {x y z : Cmd} (hx : x Γ σ = some (toldD T, σ)) (hy : y Γ σ = some (nD a, σ)) (hz : z Γ σ = some (nD b, σ)) :
    c2 idxD (c2 idxD x y) z Γ σ = some (qD (tq T a b), σ) := by
  obtain ⟨r, hr⟩ : ∃ r, T[a]? = some r := ⟨_, List.getElem?_eq_getElem (by rw [hT.len]; exact ha)⟩
  have hrl := hT.row r (List.mem_of_getElem? hr)
  obtain ⟨q, hq⟩ : ∃ q, r[b]? = some q := ⟨_, List.getElem?_eq_getElem (by rw [hrl]; exact hb)⟩
  have : tq T a b = q := by unfold tq; rw [hr]; simp [hq]
  rw [this]
  have h1 : idxD (toldD T) (nD a) σ = some (.lst (r.map qD), σ) := idx_lst (by rw [List.getElem?_map, hr]; rfl) (by omega)
  exact c2_run (c2_run hx hy h1) hz (idx_lst (by rw [List.getElem?_map, hq]; rfl) (by omega))
theorem sub1_run {x : Cmd} {j : Nat} (hj : 1 ≤ j) (hx : x Γ σ = some (nD j, σ)) : c2 subD x (cK (.int 1)) Γ σ = some (nD (j - 1), σ) := by
  refine c2_run hx rfl ?_
  show some (D.int ((j : Int) - 1), σ) = some (D.int ((j - 1 : Nat) : Int), σ)
  rw [show (j : Int) - 1 = ((j - 1 : Nat) : Int) by omega]
theorem q0_run {x : Cmd} {q : Q} (hx : x Γ σ = some (qD q, σ)) : c2 idxD x (cK (.int 0)) Γ σ = some (.int q.1, σ) := c2_run hx rfl rfl
theorem q1_run {x : Cmd} {q : Q} (hx : x Γ σ = some (qD q, σ)) : c2 idxD x (cK (.int 1)) Γ σ = some (.int q.2, σ) := c2_run hx rfl rfl
theorem same_eq {q : Q} {ap wh : Int} (h1 : small q.1 = true) (h2 : small ap = true) (h : q.1 * wh = ap * q.2) : law_sameF [qD q, .int ap, .int wh] σ = some (.bool true, σ) := by
  refine ret_self (Γ' := [some (qD q), some (.int ap), some (.int wh)]) rfl (ret_run (c2_run (mul_run (q0_run rfl) rfl h1) (mul_run rfl (q1_run rfl) h2) ?_))
  rw [h]
  show some (D.bool (ap * q.2 == ap * q.2), σ) = _
  rw [beq_self_eq_true]
noncomputable def LG (X : Nat → Option D) (i j at_ e15 e16 e17 e18 e19 : Option D) : Gam :=
  [X 0, X 1, X 2, i, j, X 5, X 6, X 7, X 8, X 9, X 10, X 11, X 12, X 13, at_, e15, e16, e17, e18, e19, X 20, X 21, X 22, X 23, X 24, X 25, X 26]
structure XF (X : Nat → Option D) (ls : List Line) (ways : List (List Nat)) (ap : List Int) (wh : Int) (T : List (List Q)) : Prop where
  h6 : X 6 = some (.lst (linesD ls))
  h10 : X 10 = some (waysD ways)
  h11 : X 11 = some (.int wh)
  h12 : X 12 = some (.lst (ap.map D.int))
  h13 : X 13 = some (toldD T)
theorem ap_idx {ap : List Int} {t : Nat} {a : Int} (h : ap[t]? = some a) (ht : t ≤ 10000) {x y : Cmd} (hx : x Γ σ = some (.lst (ap.map D.int), σ)) (hy : y Γ σ = some (nD t, σ)) : c2 idxD x y Γ σ = some (.int a, σ) :=
  c2_run hx hy (idx_lst (by rw [List.getElem?_map, h]; rfl) ht)
theorem body_run {X : Nat → Option D} {ls : List Line} {ways : List (List Nat)} {ap : List Int} {wh a : Int} {T : List (List Q)} {m i j t : Nat} (H : LW ls ways) (F : XF X ls ways ap wh T) (hT : SqT m T) (hm : m ≤ 10000) (ht : t < ls.length) (hj1 : 1 ≤ j) (hjm : j ≤ m) (him : i ≤ m)
    (ha : ap[t]? = some a) (h1 : wt ls t * a = ((ways.filter (hasI t)).map (worthI ls)).sum) (h2 : pairOk T i j a wh = true) (e15 e16 e17 e18 e19 : Option D) :
    ∃ e15' e16' e17' e18' e19', lawB (LG X (some (nD i)) (some (nD j)) (some (nD t)) e15 e16 e17 e18 e19) σ = some (.next, LG X (some (nD i)) (some (nD j)) (some (nD t)) e15' e16' e17' e18' e19', σ) := by
  have htl := H.len
  have v12 : ∀ {e15 e16 e17 e18 e19}, cVar 12 (LG X (some (nD i)) (some (nD j)) (some (nD t)) e15 e16 e17 e18 e19) σ = some (.lst (ap.map D.int), σ) := var_run (by show X 12 = _; exact F.h12)
  have v13 : ∀ {e15 e16 e17 e18 e19}, cVar 13 (LG X (some (nD i)) (some (nD j)) (some (nD t)) e15 e16 e17 e18 e19) σ = some (toldD T, σ) := var_run (by show X 13 = _; exact F.h13)
  have v11 : ∀ {e15 e16 e17 e18 e19}, cVar 11 (LG X (some (nD i)) (some (nD j)) (some (nD t)) e15 e16 e17 e18 e19) σ = some (.int wh, σ) := var_run (by show X 11 = _; exact F.h11)
  have v6 : ∀ {e15 e16 e17 e18 e19}, cVar 6 (LG X (some (nD i)) (some (nD j)) (some (nD t)) e15 e16 e17 e18 e19) σ = some (.lst (linesD ls), σ) := var_run (by show X 6 = _; exact F.h6)
  have b0 : lawB0 (LG X (some (nD i)) (some (nD j)) (some (nD t)) e15 e16 e17 e18 e19) σ = some (.next, LG X (some (nD i)) (some (nD j)) (some (nD t)) e15 e16 e17 e18 e19, σ) := by
    have hx : c2 mulD (c2 idxD (c2 idxD (cVar 6) (cVar 14)) (cK (.int 2))) (c2 idxD (cVar 12) (cVar 14)) (LG X (some (nD i)) (some (nD j)) (some (nD t)) e15 e16 e17 e18 e19) σ = some (.int (wt ls t * a), σ) :=
      mul_run (line_idx ht (by omega) v6 rfl) (ap_idx ha (by omega) v12 rfl) (small_of (by have := H.w3 t; omega))
    have hy := part_run (σ := σ) (Γ := LG X (some (nD i)) (some (nD j)) (some (nD t)) e15 e16 e17 e18 e19) (i := t) H (by show X 6 = _; exact F.h6) (by show X 10 = _; exact F.h10) rfl
    unfold lawB0
    have hq := qv_run (c2_run (f := neD) hx hy (d := .bool false) (σ' := σ) (by
      rw [h1]
      show some (D.bool (_ != _), σ) = _
      rw [bne_self_eq_false]))
    rw [if_run hq]; rfl
  cases i with
  | zero =>
    simp only [pairOk, Bool.and_eq_true, beq_iff_eq] at h2
    have b1 : lawB1 (LG X (some (nD 0)) (some (nD j)) (some (nD t)) e15 e16 e17 e18 e19) σ = some (.next, LG X (some (nD 0)) (some (nD j)) (some (nD t)) (some (.int (tq T (j - 1) (j - 1)).1)) (some (.int (tq T (j - 1) (j - 1)).2)) e17 e18 e19, σ) := by
      unfold lawB1
      have hq : qVal (c2 eqD (cVar 3) (cK (.int 0))) (LG X (some (nD 0)) (some (nD j)) (some (nD t)) e15 e16 e17 e18 e19) σ = some (true, σ) := rfl
      rw [if_run hq]
      refine (bCons_next (assign_run (told_idx hT (by omega) (by omega) hm v13 (sub1_run hj1 rfl) (sub1_run hj1 rfl)) rfl)).trans rfl
    have b2 : lawB2 (LG X (some (nD 0)) (some (nD j)) (some (nD t)) (some (.int (tq T (j - 1) (j - 1)).1)) (some (.int (tq T (j - 1) (j - 1)).2)) e17 e18 e19) σ =
        some (.next, LG X (some (nD 0)) (some (nD j)) (some (nD t)) (some (.int (tq T (j - 1) (j - 1)).1)) (some (.int (tq T (j - 1) (j - 1)).2)) e17 e18 e19, σ) := by
      have hs : qVal (cCall law_sameF (cCons (cTup (cCons (cVar 15) (cCons (cVar 16) cNil))) (cCons (c2 idxD (cVar 12) (cVar 14)) (cCons (cVar 11) cNil)))) (LG X (some (nD 0)) (some (nD j)) (some (nD t)) (some (.int (tq T (j - 1) (j - 1)).1)) (some (.int (tq T (j - 1) (j - 1)).2)) e17 e18 e19) σ = some (true, σ) := qv_run (call_run (F := law_sameF) (cons_run (x := cTup (cCons (cVar 15) (cCons (cVar 16) cNil))) (Γ := LG X (some (nD 0)) (some (nD j)) (some (nD t)) (some (.int (tq T (j - 1) (j - 1)).1)) (some (.int (tq T (j - 1) (j - 1)).2)) e17 e18 e19) (d := qD (tq T (j - 1) (j - 1))) rfl (cons_run (ap_idx ha (by omega) v12 rfl) (cons_run (y := cNil) v11 rfl))) (same_eq (q := tq T (j - 1) (j - 1)) h2.1.1 h2.1.2 h2.2))
      unfold lawB2
      have hq : qNot (qVal (cCall law_sameF (cCons (cTup (cCons (cVar 15) (cCons (cVar 16) cNil))) (cCons (c2 idxD (cVar 12) (cVar 14)) (cCons (cVar 11) cNil))))) (LG X (some (nD 0)) (some (nD j)) (some (nD t)) (some (.int (tq T (j - 1) (j - 1)).1)) (some (.int (tq T (j - 1) (j - 1)).2)) e17 e18 e19) σ = some (false, σ) := by
        unfold qNot; rw [hs]; rfl
      rw [if_run hq]; rfl
    exact ⟨_, _, _, _, _, (bCons_next b0).trans ((bCons_next b1).trans ((bCons_next b2).trans rfl))⟩
  | succ i =>
    simp only [pairOk, Bool.and_eq_true, beq_iff_eq] at h2
    obtain ⟨⟨⟨⟨⟨⟨⟨⟨g1, g2⟩, g3⟩, g4⟩, g5⟩, g6⟩, g7⟩, g8⟩, g9, g10⟩ := h2
    generalize hf : tq T i i = f at *
    generalize hs : tq T (j - 1) (j - 1) = s at *
    generalize hb : tq T i (j - 1) = b at *
    have b1 : lawB1 (LG X (some (nD (i + 1))) (some (nD j)) (some (nD t)) e15 e16 e17 e18 e19) σ = some (.next, LG X (some (nD (i + 1))) (some (nD j)) (some (nD t)) (some (.int ((f.1 * s.2 + s.1 * f.2) * b.2 - 2 * b.1 * f.2 * s.2))) (some (.int (f.2 * s.2 * b.2))) (some (qD f)) (some (qD s)) (some (qD b)), σ) := by
      unfold lawB1
      have hq : qVal (c2 eqD (cVar 3) (cK (.int 0))) (LG X (some (nD (i + 1))) (some (nD j)) (some (nD t)) e15 e16 e17 e18 e19) σ = some (false, σ) := by
        refine qv_run (c2_run (p := nD (i + 1)) rfl rfl ?_)
        show some (D.bool (((i + 1 : Nat) : Int) == 0), σ) = _
        rw [show (((i + 1 : Nat) : Int) == 0) = false by rw [beq_eq_false_iff_ne]; omega]
      rw [if_run hq]
      have k1 : c2 idxD (c2 idxD (cVar 13) (c2 subD (cVar 3) (cK (.int 1)))) (c2 subD (cVar 3) (cK (.int 1))) (LG X (some (nD (i + 1))) (some (nD j)) (some (nD t)) e15 e16 e17 e18 e19) σ = some (qD f, σ) := by
        rw [← hf]; exact told_idx hT (by omega) (by omega) hm v13 (sub1_run (j := i + 1) (by omega) rfl) (sub1_run (j := i + 1) (by omega) rfl)
      have k2 : c2 idxD (c2 idxD (cVar 13) (c2 subD (cVar 4) (cK (.int 1)))) (c2 subD (cVar 4) (cK (.int 1))) (LG X (some (nD (i + 1))) (some (nD j)) (some (nD t)) e15 e16 e17 e18 e19) σ = some (qD s, σ) := by
        rw [← hs]; exact told_idx hT (by omega) (by omega) hm v13 (sub1_run hj1 rfl) (sub1_run hj1 rfl)
      have k3 : c2 idxD (c2 idxD (cVar 13) (c2 subD (cVar 3) (cK (.int 1)))) (c2 subD (cVar 4) (cK (.int 1))) (LG X (some (nD (i + 1))) (some (nD j)) (some (nD t)) e15 e16 e17 e18 e19) σ = some (qD b, σ) := by
        rw [← hb]; exact told_idx hT (by omega) (by omega) hm v13 (sub1_run (j := i + 1) (by omega) rfl) (sub1_run hj1 rfl)
      have kt : cTup (cCons (c2 idxD (c2 idxD (cVar 13) (c2 subD (cVar 3) (cK (.int 1)))) (c2 subD (cVar 3) (cK (.int 1)))) (cCons (c2 idxD (c2 idxD (cVar 13) (c2 subD (cVar 4) (cK (.int 1)))) (c2 subD (cVar 4) (cK (.int 1)))) (cCons (c2 idxD (c2 idxD (cVar 13) (c2 subD (cVar 3) (cK (.int 1)))) (c2 subD (cVar 4) (cK (.int 1)))) cNil)))
          (LG X (some (nD (i + 1))) (some (nD j)) (some (nD t)) e15 e16 e17 e18 e19) σ = some (.tup [qD f, qD s, qD b], σ) := by
        unfold cTup
        rw [cons_run k1 (cons_run k2 (cons_run k3 rfl))]; rfl
      refine (bCons_next (assign_run (Γ' := LG X (some (nD (i + 1))) (some (nD j)) (some (nD t)) e15 e16 (some (qD f)) (some (qD s)) (some (qD b))) kt rfl)).trans ?_
      refine (bCons_next (assign_run (d := .int (f.2 * s.2 * b.2)) (Γ' := LG X (some (nD (i + 1))) (some (nD j)) (some (nD t)) e15 (some (.int (f.2 * s.2 * b.2))) (some (qD f)) (some (qD s)) (some (qD b))) (mul_run (mul_run (q1_run rfl) (q1_run rfl) g1) (q1_run rfl) g2) rfl)).trans ?_
      exact (bCons_next (assign_run (d := .int ((f.1 * s.2 + s.1 * f.2) * b.2 - 2 * b.1 * f.2 * s.2)) (sub_run (mul_run (add_run (mul_run (q0_run rfl) (q1_run rfl) g3) (mul_run (q0_run rfl) (q1_run rfl) g4)) (q1_run rfl) g5)
        (mul_run (mul_run (mul_run (p := 2) rfl (q0_run rfl) rfl) (q1_run rfl) g6) (q1_run rfl) g7)) rfl)).trans rfl
    have b2 : lawB2 (LG X (some (nD (i + 1))) (some (nD j)) (some (nD t)) (some (.int ((f.1 * s.2 + s.1 * f.2) * b.2 - 2 * b.1 * f.2 * s.2))) (some (.int (f.2 * s.2 * b.2))) (some (qD f)) (some (qD s)) (some (qD b))) σ =
        some (.next, LG X (some (nD (i + 1))) (some (nD j)) (some (nD t)) (some (.int ((f.1 * s.2 + s.1 * f.2) * b.2 - 2 * b.1 * f.2 * s.2))) (some (.int (f.2 * s.2 * b.2))) (some (qD f)) (some (qD s)) (some (qD b)), σ) := by
      have hs : qVal (cCall law_sameF (cCons (cTup (cCons (cVar 15) (cCons (cVar 16) cNil))) (cCons (c2 idxD (cVar 12) (cVar 14)) (cCons (cVar 11) cNil)))) (LG X (some (nD (i + 1))) (some (nD j)) (some (nD t)) (some (.int ((f.1 * s.2 + s.1 * f.2) * b.2 - 2 * b.1 * f.2 * s.2))) (some (.int (f.2 * s.2 * b.2))) (some (qD f)) (some (qD s)) (some (qD b))) σ = some (true, σ) := qv_run (call_run (F := law_sameF) (cons_run (x := cTup (cCons (cVar 15) (cCons (cVar 16) cNil))) (Γ := LG X (some (nD (i + 1))) (some (nD j)) (some (nD t)) (some (.int ((f.1 * s.2 + s.1 * f.2) * b.2 - 2 * b.1 * f.2 * s.2))) (some (.int (f.2 * s.2 * b.2))) (some (qD f)) (some (qD s)) (some (qD b))) (d := qD ((f.1 * s.2 + s.1 * f.2) * b.2 - 2 * b.1 * f.2 * s.2, f.2 * s.2 * b.2)) rfl (cons_run (ap_idx ha (by omega) v12 rfl) (cons_run (y := cNil) v11 rfl)))
        (same_eq (q := ((f.1 * s.2 + s.1 * f.2) * b.2 - 2 * b.1 * f.2 * s.2, f.2 * s.2 * b.2)) g9 g8 g10))
      unfold lawB2
      have hq : qNot (qVal (cCall law_sameF (cCons (cTup (cCons (cVar 15) (cCons (cVar 16) cNil))) (cCons (c2 idxD (cVar 12) (cVar 14)) (cCons (cVar 11) cNil))))) (LG X (some (nD (i + 1))) (some (nD j)) (some (nD t)) (some (.int ((f.1 * s.2 + s.1 * f.2) * b.2 - 2 * b.1 * f.2 * s.2))) (some (.int (f.2 * s.2 * b.2))) (some (qD f)) (some (qD s)) (some (qD b))) σ = some (false, σ) := by
        unfold qNot; rw [hs]; rfl
      rw [if_run hq]; rfl
    exact ⟨_, _, _, _, _, (bCons_next b0).trans ((bCons_next b1).trans ((bCons_next b2).trans rfl))⟩
end
end Mine
-- H17
set_option maxHeartbeats 4000000
namespace Mine
open PySem PySem.W PyProof.Rows
theorem ex_next {a b : SCmd} {Γ Γ₁ : Gam} {σ σ₁ σ₂ : Sto} {r} (h : a Γ σ = some (.next, Γ₁, σ₁)) (H : ∃ Γ', b Γ₁ σ₁ = some (r, Γ', σ₂)) : ∃ Γ', bCons a b Γ σ = some (r, Γ', σ₂) := by
  obtain ⟨Γ', h'⟩ := H
  exact ⟨Γ', (bCons_next h).trans h'⟩
theorem qnot_run {q : QCmd} {Γ : Gam} {σ : Sto} (h : q Γ σ = some (true, σ)) : qNot q Γ σ = some (false, σ) := by
  unfold qNot; rw [h]; rfl
section
variable {σ : Sto}
noncomputable def XS (x0 x1 x2 x5 x6 x7 x8 x9 x10 x11 x12 x13 : Option D) : Nat → Option D
  | 0 => x0 | 1 => x1 | 2 => x2 | 5 => x5 | 6 => x6 | 7 => x7 | 8 => x8 | 9 => x9 | 10 => x10 | 11 => x11 | 12 => x12 | 13 => x13 | _ => none
structure PF (ls : List Line) (ways : List (List Nat)) (ap : List Int) (wh : Int) (T : List (List Q)) (m : Nat) : Prop where
  pf : ∀ t l, ls[t]? = some l → 1 ≤ l.2.1 ∧ l.2.1 ≤ m ∧ l.1 ≤ m ∧ ∃ a, ap[t]? = some a ∧ wt ls t * a = ((ways.filter (hasI t)).map (worthI ls)).sum ∧ pairOk T l.1 l.2.1 a wh = true
theorem pairs_loop {X : Nat → Option D} {ls : List Line} {ways : List (List Nat)} {ap : List Int} {wh : Int} {T : List (List Q)} {m : Nat} (H : LW ls ways) (F : XF X ls ways ap wh T) (hT : SqT m T) (hm : m ≤ 10000) (P : PF ls ways ap wh T m) :
    ∀ (sub : List Line) (t : Nat) (e3 e4 e14 e15 e16 e17 e18 e19 : Option D), ls.drop t = sub →
    ∃ e3' e4' e14' e15' e16' e17' e18' e19', forL (tTup [(tVar 14), (tTup [(tVar 3), (tVar 4)])]) lawB (enumL t (sub.map pairD)) (LG X e3 e4 e14 e15 e16 e17 e18 e19) σ = some (.next, LG X e3' e4' e14' e15' e16' e17' e18' e19', σ)
  | [], t, e3, e4, e14, e15, e16, e17, e18, e19, _ => ⟨e3, e4, e14, e15, e16, e17, e18, e19, rfl⟩
  | l :: sub, t, e3, e4, e14, e15, e16, e17, e18, e19, hdr => by
    have ht : ls[t]? = some l := by
      have := congrArg (fun l => l[0]?) hdr
      simpa using this
    have htl : t < ls.length := (List.getElem?_eq_some_iff.mp ht).1
    have hdr' : ls.drop (t + 1) = sub := by rw [← List.tail_drop, hdr]; rfl
    obtain ⟨p1, p2, p3, a, ha, p4, p5⟩ := P.pf t l ht
    obtain ⟨f15, f16, f17, f18, f19, hb⟩ := body_run (σ := σ) (X := X) H F hT hm htl p1 p2 p3 ha p4 p5 e15 e16 e17 e18 e19
    obtain ⟨g3, g4, g14, g15, g16, g17, g18, g19, ih⟩ := pairs_loop H F hT hm P sub (t + 1) (some (nD l.1)) (some (nD l.2.1)) (some (nD t)) f15 f16 f17 f18 f19 hdr'
    refine ⟨g3, g4, g14, g15, g16, g17, g18, g19, ?_⟩
    show forL _ _ (.tup [nD t, pairD l] :: enumL (t + 1) (sub.map pairD)) _ σ = _
    rw [forL_next (show tTup [(tVar 14), (tTup [(tVar 3), (tVar 4)])] (.tup [nD t, pairD l]) (LG X e3 e4 e14 e15 e16 e17 e18 e19) σ = some (LG X (some (nD l.1)) (some (nD l.2.1)) (some (nD t)) e15 e16 e17 e18 e19, σ) from rfl) hb]
    exact ih
structure Facts (σ : Sto) (n m : Nat) (ls : List Line) (ways : List (List Nat)) (apf : Line → Int) (wh : Int) (T : List (List Q)) (A : D) (spot : Nat) (l0 : Line) (mo : Int) (th bk : Q) : Prop where
  hn : n = 3 ∨ n = 4
  hm : m + 1 = n
  lw : LW ls ways
  f1 : law_matrixF [nD n, .lst (linesD ls)] σ = some (A, σ)
  f2 : law_waysF [nD n, .lst (linesD ls)] σ = some (waysD ways, σ)
  f3 : (ways.map (worthI ls)).sum = wh
  f4 : ∀ l ∈ ls, ∃ X, law_withoutF [A, pairD l] σ = some (X, σ) ∧ determinantF [X] σ = some (.int (apf l), σ)
  f5 : ∀ k, k < n → ∃ X, law_withoutF [A, .lst [nD k]] σ = some (X, σ) ∧ determinantF [X] σ = some (.int wh, σ)
  f6 : ∃ Y M, law_withoutF [A, .lst [nD 0]] σ = some (Y, σ) ∧ from_wholeF [Y] σ = some (M, σ) ∧ inverseF [M] σ = some (toldD T, σ)
  hT : SqT m T
  pf : PF ls ways (ls.map apf) wh T m
  wb : ∀ x ∈ wap ls 0 (ls.map apf), x.natAbs ≤ 1000000
  ab : ∀ x ∈ ls.map apf, x.natAbs ≤ 1000000
  wsum : (wap ls 0 (ls.map apf)).sum = ((n : Int) - 1) * wh
  h0 : ls[spot]? = some l0
  f8 : ∃ W Y, law_matrixF [nD n, .lst (linesD ls ++ [.tup [nD l0.1, nD l0.2.1, .int mo]])] σ = some (W, σ) ∧ law_withoutF [W, .lst [nD 0]] σ = some (Y, σ) ∧ determinantF [Y] σ = some (.int (wh + mo * apf l0), σ)
  smo : small mo = true
  f9 : law_stepsF [A, nD l0.1, nD l0.2.1] σ = some (qD th, σ)
  f9' : law_stepsF [A, nD l0.2.1, nD l0.1] σ = some (qD bk, σ)
  s1 : small th.1 = true
  s2 : small th.2 = true
  s3 : small bk.1 = true
  s4 : small (th.1 * bk.2 + bk.1 * th.2) = true
  s5 : small (2 * (ls.map fun l => l.2.2).sum) = true
  s6 : small (2 * (ls.map fun l => l.2.2).sum * apf l0) = true
  st : (th.1 * bk.2 + bk.1 * th.2) * wh = 2 * (ls.map fun l => l.2.2).sum * apf l0 * (th.2 * bk.2)
  f10 : ∃ (M : D) (res : List Int), from_wholeF [A] σ = some (M, σ) ∧ charpolyF [M] σ = some (.lst (res.map oneD), σ) ∧ res.length ≤ 10000 ∧ res.take 3 = [0, 0 - (1 - 2 * ((n : Int).fmod 2)) * n * wh, (1 - 2 * ((n : Int).fmod 2)) * (ls.map apf).sum]
theorem steps_not_none {x : Cmd} {q : Q} {Γ : Gam} (hx : x Γ σ = some (qD q, σ)) : qVal (c2 isNoneD x (cK .none)) Γ σ = some (false, σ) := qv_run (c2_run hx rfl rfl)
theorem eq_refl3 (a b c : Int) : eqD (.lst [oneD a, oneD b, oneD c]) (.lst [oneD a, oneD b, oneD c]) σ = some (.bool true, σ) := by
  have : eqBL [oneD a, oneD b, oneD c] [oneD a, oneD b, oneD c] = true := by
    show ((a == a && (((1 : Int) == 1) && true)) && (((b == b && (((1 : Int) == 1) && true))) && (((c == c && (((1 : Int) == 1) && true))) && true))) = true
    simp
  show (if (List.all [oneD a, oneD b, oneD c] (okE 8) && List.all [oneD a, oneD b, oneD c] (okE 8)) = true then some (D.bool (eqBL [oneD a, oneD b, oneD c] [oneD a, oneD b, oneD c]), σ) else none) = _
  rw [this]; rfl
theorem rest_run {n m : Nat} {ls : List Line} {ways : List (List Nat)} {apf : Line → Int} {wh : Int} {T : List (List Q)} {A : D} {spot : Nat} {l0 : Line} {mo : Int} {th bk : Q} (F : Facts σ n m ls ways apf wh T A spot l0 mo th bk) (x0 x1 : Option D) :
    ∃ Γ', c_rest [x0, x1, some (nD n), none, none, some (.lst (ls.map pairD)), some (.lst (linesD ls)), some (nD spot), some (.int mo), none, none, none, none, none, none, none, none, none, none, none, none, none, none, none, none, none, none] σ =
      some (.ret (.bool true), Γ', σ) := by
  have hls := F.lw.len
  have hn := F.hn
  have hm := F.hm
  -- 5
  refine ex_next (Γ₁ := [x0, x1, some (nD n), none, none, some (.lst (ls.map pairD)), some (.lst (linesD ls)), some (nD spot), some (.int mo), some A, some (waysD ways), none, none, none, none, none, none, none, none, none, none, none, none, none, none, none, none]) (σ₁ := σ) (assign_run (d := .tup [A, waysD ways]) (σ' := σ) ?_ rfl) ?_
  · unfold cTup
    rw [cons_run (call2_run rfl rfl F.f1) (cons_run (call2_run rfl rfl F.f2) rfl)]; rfl
  -- 6
  refine ex_next (Γ₁ := [x0, x1, some (nD n), none, none, some (.lst (ls.map pairD)), some (.lst (linesD ls)), some (nD spot), some (.int mo), some A, some (waysD ways), some (.int wh), none, none, none, none, none, none, none, none, none, none, none, none, none, none, none]) (σ₁ := σ) (assign_run (d := .int wh) (σ' := σ) ((whole_run F.lw rfl rfl).trans (by rw [F.f3])) rfl) ?_
  -- 7
  refine ex_next (Γ₁ := [x0, x1, some (nD n), none, none, some (.lst (ls.map pairD)), some (.lst (linesD ls)), some (nD spot), some (.int mo), some A, some (waysD ways), some (.int wh), some (.lst ((ls.map apf).map D.int)), none, none, none, none, none, none, none, none, none, none, none, none, none, none]) (σ₁ := σ) (assign_run (d := .lst ((ls.map apf).map D.int)) (σ' := σ) (apart_run hls rfl rfl F.f4) rfl) ?_
  -- 8
  refine ex_next (knots_run (n := n) (A := A) (wh := wh) (by omega) rfl rfl rfl F.f5) ?_
  -- 9
  obtain ⟨Y, M, y1, y2, y3⟩ := F.f6
  refine ex_next (Γ₁ := [x0, x1, some (nD n), none, none, some (.lst (ls.map pairD)), some (.lst (linesD ls)), some (nD spot), some (.int mo), some A, some (waysD ways), some (.int wh), some (.lst ((ls.map apf).map D.int)), some (toldD T), none, none, none, none, none, none, none, none, none, none, none, none, none]) (σ₁ := σ) (assign_run (d := toldD T) (σ' := σ) (call1_run (call1_run (call2_run rfl rfl y1) y2) y3) rfl) ?_
  -- 10
  refine ex_next (Γ₁ := LG (XS x0 x1 (some (nD n)) (some (.lst (ls.map pairD))) (some (.lst (linesD ls))) (some (nD spot)) (some (.int mo)) (some A) (some (waysD ways)) (some (.int wh)) (some (.lst ((ls.map apf).map D.int))) (some (toldD T))) none none none none none none none none) (σ₁ := σ) rfl ?_
  -- 11
  obtain ⟨e3, e4, e14, e15, e16, e17, e18, e19, hl⟩ := pairs_loop (σ := σ) (X := XS x0 x1 (some (nD n)) (some (.lst (ls.map pairD))) (some (.lst (linesD ls))) (some (nD spot)) (some (.int mo)) (some A) (some (waysD ways)) (some (.int wh)) (some (.lst ((ls.map apf).map D.int))) (some (toldD T)))
    F.lw ⟨rfl, rfl, rfl, rfl, rfl⟩ F.hT (by omega) F.pf ls 0 none none none none none none none none rfl
  refine ex_next (Γ₁ := [x0, x1, some (nD n), e3, e4, some (.lst (ls.map pairD)), some (.lst (linesD ls)), some (nD spot), some (.int mo), some A, some (waysD ways), some (.int wh), some (.lst ((ls.map apf).map D.int)), some (toldD T), e14, e15, e16, e17, e18, e19, none, none, none, none, none, none, none]) (σ₁ := σ) hl ?_
  -- 12
  refine ex_next (total_run hls F.lw.w3 (by rw [List.length_map]) rfl rfl rfl rfl F.wb hn F.wsum) ?_
  -- 13
  have hsp : spot < ls.length := (List.getElem?_eq_some_iff.mp F.h0).1
  refine ex_next (Γ₁ := [x0, x1, some (nD n), e3, e4, some (.lst (ls.map pairD)), some (.lst (linesD ls)), some (nD spot), some (.int mo), some A, some (waysD ways), some (.int wh), some (.lst ((ls.map apf).map D.int)), some (toldD T), e14, e15, e16, e17, e18, e19, some (nD l0.1), some (nD l0.2.1), none, none, none, none, none]) (σ₁ := σ) (assign_run (d := pairD l0) (σ' := σ) (c2_run rfl rfl (idx_lst (l := ls.map pairD) (by rw [List.getElem?_map, F.h0]; rfl) (by omega))) rfl) ?_
  -- 14
  obtain ⟨W, Y', w1, w2, w3⟩ := F.f8
  have t14 : cTup (cCons (cVar 20) (cCons (cVar 21) (cCons (cVar 8) cNil))) [x0, x1, some (nD n), e3, e4, some (.lst (ls.map pairD)), some (.lst (linesD ls)), some (nD spot), some (.int mo), some A, some (waysD ways), some (.int wh), some (.lst ((ls.map apf).map D.int)), some (toldD T), e14, e15, e16, e17, e18, e19, some (nD l0.1), some (nD l0.2.1), none, none, none, none, none] σ = some (.tup [nD l0.1, nD l0.2.1, .int mo], σ) := by
    unfold cTup
    rw [cons_run (d := nD l0.1) rfl (cons_run (d := nD l0.2.1) rfl (cons_run (d := .int mo) rfl rfl))]; rfl
  have l14 : cLst (cCons (cTup (cCons (cVar 20) (cCons (cVar 21) (cCons (cVar 8) cNil)))) cNil) [x0, x1, some (nD n), e3, e4, some (.lst (ls.map pairD)), some (.lst (linesD ls)), some (nD spot), some (.int mo), some A, some (waysD ways), some (.int wh), some (.lst ((ls.map apf).map D.int)), some (toldD T), e14, e15, e16, e17, e18, e19, some (nD l0.1), some (nD l0.2.1), none, none, none, none, none] σ = some (.lst [.tup [nD l0.1, nD l0.2.1, .int mo]], σ) := by
    unfold cLst
    rw [cons_run t14 rfl]; rfl
  have a14 : addD (.lst (linesD ls)) (.lst [.tup [nD l0.1, nD l0.2.1, .int mo]]) σ = some (.lst (linesD ls ++ [.tup [nD l0.1, nD l0.2.1, .int mo]]), σ) := by
    show (if (linesD ls).length + 1 ≤ 10000 then some (D.lst (linesD ls ++ [.tup [nD l0.1, nD l0.2.1, .int mo]]), σ) else none) = _
    rw [if_pos (by unfold linesD; rw [List.length_map]; omega)]
  have x14 : c2 addD (cVar 6) (cLst (cCons (cTup (cCons (cVar 20) (cCons (cVar 21) (cCons (cVar 8) cNil)))) cNil)) [x0, x1, some (nD n), e3, e4, some (.lst (ls.map pairD)), some (.lst (linesD ls)), some (nD spot), some (.int mo), some A, some (waysD ways), some (.int wh), some (.lst ((ls.map apf).map D.int)), some (toldD T), e14, e15, e16, e17, e18, e19, some (nD l0.1), some (nD l0.2.1), none, none, none, none, none] σ = some (.lst (linesD ls ++ [.tup [nD l0.1, nD l0.2.1, .int mo]]), σ) :=
    c2_run (p := .lst (linesD ls)) rfl l14 a14
  have y14 : cCall law_matrixF (cCons (cVar 2) (cCons (c2 addD (cVar 6) (cLst (cCons (cTup (cCons (cVar 20) (cCons (cVar 21) (cCons (cVar 8) cNil)))) cNil))) cNil)) [x0, x1, some (nD n), e3, e4, some (.lst (ls.map pairD)), some (.lst (linesD ls)), some (nD spot), some (.int mo), some A, some (waysD ways), some (.int wh), some (.lst ((ls.map apf).map D.int)), some (toldD T), e14, e15, e16, e17, e18, e19, some (nD l0.1), some (nD l0.2.1), none, none, none, none, none] σ = some (W, σ) :=
    call2_run (p := nD n) rfl x14 w1
  refine ex_next (Γ₁ := [x0, x1, some (nD n), e3, e4, some (.lst (ls.map pairD)), some (.lst (linesD ls)), some (nD spot), some (.int mo), some A, some (waysD ways), some (.int wh), some (.lst ((ls.map apf).map D.int)), some (toldD T), e14, e15, e16, e17, e18, e19, some (nD l0.1), some (nD l0.2.1), some W, none, none, none, none]) (σ₁ := σ) (assign_run y14 rfl) ?_
  -- 15
  have ha0 : (ls.map apf)[spot]? = some (apf l0) := by rw [List.getElem?_map, F.h0]; rfl
  refine ex_next (Γ₁ := ([x0, x1, some (nD n), e3, e4, some (.lst (ls.map pairD)), some (.lst (linesD ls)), some (nD spot), some (.int mo), some A, some (waysD ways), some (.int wh), some (.lst ((ls.map apf).map D.int)), some (toldD T), e14, e15, e16, e17, e18, e19, some (nD l0.1), some (nD l0.2.1), some W, none, none, none, none])) (σ₁ := σ) ?_ ?_
  · have hq := qv_run (c2_run (f := neD) (σ' := σ) (d := .bool false) (σ := σ) (Γ := [x0, x1, some (nD n), e3, e4, some (.lst (ls.map pairD)), some (.lst (linesD ls)), some (nD spot), some (.int mo), some A, some (waysD ways), some (.int wh), some (.lst ((ls.map apf).map D.int)), some (toldD T), e14, e15, e16, e17, e18, e19, some (nD l0.1), some (nD l0.2.1), some W, none, none, none, none])
      (x := cCall determinantF (cCons (cCall law_withoutF (cCons (cVar 22) (cCons (cLst (cCons (cK (.int 0)) cNil)) cNil))) cNil)) (y := c2 addD (cVar 11) (c2 mulD (cVar 8) (c2 idxD (cVar 12) (cVar 7))))
      (call1_run (call2_run rfl rfl w2) w3) (add_run (p := wh) rfl (mul_run (p := mo) rfl (ap_idx ha0 (by omega) rfl rfl) F.smo)) (by
        show some (D.bool (_ != _), σ) = _
        rw [bne_self_eq_false]))
    show lawS15 _ σ = _
    unfold lawS15
    exact (if_run hq).trans rfl
  -- 16
  refine ex_next (assign_run (d := .tup [qD th, qD bk]) (σ' := σ) ?_ rfl) ?_
  · have l1 : cCall law_stepsF (cCons (cVar 9) (cCons (cVar 20) (cCons (cVar 21) cNil))) [x0, x1, some (nD n), e3, e4, some (.lst (ls.map pairD)), some (.lst (linesD ls)), some (nD spot), some (.int mo), some A, some (waysD ways), some (.int wh), some (.lst ((ls.map apf).map D.int)), some (toldD T), e14, e15, e16, e17, e18, e19, some (nD l0.1), some (nD l0.2.1), some W, none, none, none, none] σ = some (qD th, σ) :=
      call_run (ds := [A, nD l0.1, nD l0.2.1]) rfl F.f9
    have l2 : cCall law_stepsF (cCons (cVar 9) (cCons (cVar 21) (cCons (cVar 20) cNil))) [x0, x1, some (nD n), e3, e4, some (.lst (ls.map pairD)), some (.lst (linesD ls)), some (nD spot), some (.int mo), some A, some (waysD ways), some (.int wh), some (.lst ((ls.map apf).map D.int)), some (toldD T), e14, e15, e16, e17, e18, e19, some (nD l0.1), some (nD l0.2.1), some W, none, none, none, none] σ = some (qD bk, σ) :=
      call_run (ds := [A, nD l0.2.1, nD l0.1]) rfl F.f9'
    unfold cTup
    rw [cons_run l1 (cons_run l2 rfl)]; rfl
  -- 17
  refine ex_next (Γ₁ := ([x0, x1, some (nD n), e3, e4, some (.lst (ls.map pairD)), some (.lst (linesD ls)), some (nD spot), some (.int mo), some A, some (waysD ways), some (.int wh), some (.lst ((ls.map apf).map D.int)), some (toldD T), e14, e15, e16, e17, e18, e19, some (nD l0.1), some (nD l0.2.1), some W, some (qD th), some (qD bk), none, none])) (σ₁ := σ) rfl ?_
  -- 18
  refine ex_next (assign_run (d := qD (th.1 * bk.2 + bk.1 * th.2, th.2 * bk.2)) (σ' := σ) ?_ rfl) ?_
  · unfold cTup
    rw [cons_run (add_run (mul_run (q0_run (q := th) rfl) (q1_run (q := bk) rfl) F.s1) (mul_run (q0_run (q := bk) rfl) (q1_run (q := th) rfl) F.s3)) (cons_run (mul_run (q1_run (q := th) rfl) (q1_run (q := bk) rfl) F.s2) rfl)]; rfl
  -- 19
  refine ex_next (Γ₁ := ([x0, x1, some (nD n), e3, e4, some (.lst (ls.map pairD)), some (.lst (linesD ls)), some (nD spot), some (.int mo), some A, some (waysD ways), some (.int wh), some (.lst ((ls.map apf).map D.int)), some (toldD T), e14, e15, e16, e17, e18, e19, some (nD l0.1), some (nD l0.2.1), some W, some (qD th), some (qD bk), some (qD (th.1 * bk.2 + bk.1 * th.2, th.2 * bk.2)), none])) (σ₁ := σ) ?_ ?_
  · obtain ⟨Γc, hc⟩ := comp_map1 (Γ := [none, none]) (σ := σ) (enc := lnD) (g := fun l => .int l.2.2) (e := c2 idxD (cVar 1) (cK (.int 2))) ls none fun l _ => c2_run rfl rfl rfl
    have hsum : c1 sumD (cComp [none, none] (iLst (cVar 6)) (tVar 1) (fElt (c2 idxD (cVar 1) (cK (.int 2))))) [x0, x1, some (nD n), e3, e4, some (.lst (ls.map pairD)), some (.lst (linesD ls)), some (nD spot), some (.int mo), some A, some (waysD ways), some (.int wh), some (.lst ((ls.map apf).map D.int)), some (toldD T), e14, e15, e16, e17, e18, e19, some (nD l0.1), some (nD l0.2.1), some W, some (qD th), some (qD bk), some (qD (th.1 * bk.2 + bk.1 * th.2, th.2 * bk.2)), none] σ =
        some (.int (ls.map fun l => l.2.2).sum, σ) := by
      refine c1_run (comp_run (items := ls.map lnD) rfl rfl hc (by rw [List.length_map]; omega)) ?_
      rw [show ls.map (fun l => D.int l.2.2) = (ls.map fun l => l.2.2).map D.int by rw [List.map_map]; rfl]
      refine sum_eq (B := 3) (fun x hx => ?_) (by rw [List.length_map]; omega)
      obtain ⟨l, hl, rfl⟩ := List.mem_map.mp hx
      obtain ⟨i, hi⟩ := List.mem_iff_getElem?.mp hl
      have := F.lw.w3 i
      unfold wt at this
      rw [hi] at this
      exact this
    have hs : qVal (cCall law_sameF (cCons (cVar 25) (cCons (c2 mulD (c2 mulD (cK (.int 2)) (c1 sumD (cComp [none, none] (iLst (cVar 6)) (tVar 1) (fElt (c2 idxD (cVar 1) (cK (.int 2))))))) (c2 idxD (cVar 12) (cVar 7))) (cCons (cVar 11) cNil)))) [x0, x1, some (nD n), e3, e4, some (.lst (ls.map pairD)), some (.lst (linesD ls)), some (nD spot), some (.int mo), some A, some (waysD ways), some (.int wh), some (.lst ((ls.map apf).map D.int)), some (toldD T), e14, e15, e16, e17, e18, e19, some (nD l0.1), some (nD l0.2.1), some W, some (qD th), some (qD bk), some (qD (th.1 * bk.2 + bk.1 * th.2, th.2 * bk.2)), none] σ = some (true, σ) :=
      qv_run (call_run (cons_run (d := qD (th.1 * bk.2 + bk.1 * th.2, th.2 * bk.2)) rfl (cons_run (mul_run (mul_run (p := 2) rfl hsum rfl) (ap_idx ha0 (by omega) rfl rfl) F.s5) (cons_run (d := .int wh) rfl rfl))) (same_eq F.s4 F.s6 F.st))
    show lawS19 _ σ = _
    unfold lawS19
    refine (if_run (v := false) ?_).trans rfl
    exact qnot_run hs
  -- 20
  refine ex_next (assign_run (d := .int (1 - 2 * ((n : Int).fmod 2))) (σ' := σ) (sub_run (p := 1) rfl (mul_run (p := 2) (q := (n : Int).fmod 2) rfl rfl rfl)) rfl) ?_
  -- 21
  obtain ⟨M', res, c1', c2', c3', c4'⟩ := F.f10
  refine ⟨_, ret_run (d := .bool true) (σ' := σ) ?_⟩
  have hsg : small (1 - 2 * ((n : Int).fmod 2)) = true := by rcases hn with rfl | rfl <;> rfl
  have hsgn : small ((1 - 2 * ((n : Int).fmod 2)) * n) = true := by rcases hn with rfl | rfl <;> rfl
  refine c2_run (p := .lst [oneD 0, oneD (0 - (1 - 2 * ((n : Int).fmod 2)) * n * wh), oneD ((1 - 2 * ((n : Int).fmod 2)) * (ls.map apf).sum)]) (q := .lst [oneD 0, oneD (0 - (1 - 2 * ((n : Int).fmod 2)) * n * wh), oneD ((1 - 2 * ((n : Int).fmod 2)) * (ls.map apf).sum)]) ?_ ?_ (eq_refl3 _ _ _)
  · refine c2_run (p := .lst (res.map oneD)) (q := nD 3) (call1_run (call1_run rfl c1') c2') rfl ?_
    show (if decide (0 ≤ (3 : Int)) && okN (res.map oneD) then some (D.lst ((res.map oneD).take 3), σ) else none) = _
    rw [okN_of (by rw [List.length_map]; exact c3'), ← List.map_take, c4']; rfl
  · have hsm := sum_eq (σ := σ) (l := ls.map apf) (B := 1000000) F.ab (by rw [List.length_map]; omega)
    unfold cLst
    rw [cons_run (d := oneD 0) rfl (cons_run (d := oneD (0 - (1 - 2 * ((n : Int).fmod 2)) * n * wh)) (by
      unfold cTup
      rw [cons_run (sub_run (p := 0) rfl (mul_run (mul_run (p := 1 - 2 * ((n : Int).fmod 2)) (q := (n : Int)) rfl rfl hsg) (q := wh) rfl hsgn)) (cons_run (d := .int 1) rfl rfl)]; rfl)
      (cons_run (d := oneD ((1 - 2 * ((n : Int).fmod 2)) * (ls.map apf).sum)) (by
      unfold cTup
      rw [cons_run (mul_run (p := 1 - 2 * ((n : Int).fmod 2)) rfl (c1_run rfl hsm) hsg) (cons_run (d := .int 1) rfl rfl)]; rfl) rfl))]
    rfl
end
end Mine
-- H18
set_option maxHeartbeats 4000000
namespace Mine
open PySem PySem.W PyProof.Rows
noncomputable def bUpd : SCmd := sAssign (c2 divD (c2 subD (c2 mulD (c2 idxD (c2 idxD (cVar 0) (cVar 4)) (cVar 6)) (cVar 3)) (c2 mulD (cVar 5) (c2 idxD (c2 idxD (cVar 0) (cVar 1)) (cVar 6)))) (cVar 2)) (tSub (c2 idxD (cVar 0) (cVar 4)) (cVar 6))
noncomputable def bIn : SCmd := bCons bUpd bNil
noncomputable def bOut : SCmd := bCons (sAssign (c2 idxD (c2 idxD (cVar 0) (cVar 4)) (cVar 1)) (tVar 5)) (bCons (sFor (iRng2 (c2 addD (cVar 1) (cK (.int 1))) (c1 lenD (cVar 0))) (tVar 6) bIn) (bCons (sAssign (cK (.int 0)) (tSub (c2 idxD (cVar 0) (cVar 4)) (cVar 1))) bNil))
theorem c_bar_eq : c_bareiss_step = bCons (sAssign (c2 idxD (c2 idxD (cVar 0) (cVar 1)) (cVar 1)) (tVar 3)) (bCons (sFor (iRng2 (c2 addD (cVar 1) (cK (.int 1))) (c1 lenD (cVar 0))) (tVar 4) bOut) bNil) := rfl
noncomputable def dB : SCmd := bCons (sAssign (cCall pivot_rowF (cCons (cVar 2) (cCons (cVar 5) cNil))) (tVar 1)) (bCons (sIf (qVal (c2 isNoneD (cVar 1) (cK .none))) (bCons (sRet (cK (.int 0))) bNil) bNil)
  (bCons (sIf (qVal (c2 neD (cVar 1) (cVar 5))) (bCons (sAssign (cTup (cCons (c2 idxD (cVar 2) (cVar 5)) (cCons (c2 idxD (cVar 2) (cVar 1)) cNil))) (tTup [(tSub (cVar 2) (cVar 1)), (tSub (cVar 2) (cVar 5))])) (bCons (sAssign (c1 negD (cVar 3)) (tVar 3)) bNil)) bNil)
  (bCons (sExpr (cCall bareiss_stepF (cCons (cVar 2) (cCons (cVar 5) (cCons (cVar 4) cNil))))) (bCons (sAssign (c2 idxD (c2 idxD (cVar 2) (cVar 5)) (cVar 5)) (tVar 4)) bNil))))
noncomputable def dA : SCmd := sIf (qVal (c2 neD (cComp [none, none, some 0] (iLst (cVar 0)) (tVar 1) (fIf (qVal (c2 neD (c1 lenD (cVar 1)) (c1 lenD (cVar 2)))) (cVar 1))) (cLst cNil))) (bCons sRaise bNil) bNil
noncomputable def dC : SCmd := sAssign (cTup (cCons (cCompR [none, none] (iLst (cVar 0)) (tVar 1) (fElt (c1 listM (cVar 1)))) (cCons (cK (.int 1)) (cCons (cK (.int 1)) cNil)))) (tTup [(tVar 2), (tVar 3), (tVar 4)])
theorem c_det_eq : c_determinant = bCons dA (bCons dC (bCons (sFor (iRng1 (c1 lenD (cVar 0))) (tVar 5) dB) (bCons (sRet (c2 mulD (cVar 3) (cVar 4))) bNil))) := rfl
noncomputable def nz (i : Int) : Bool := !isZ i
theorem nz_ne {i : Int} (h : nz i = true) : i ≠ 0 := fun e => by subst e; cases h
section
variable {Γ : Gam} {σ σ' : Sto}
theorem upd_run {x ld fi y ah q : Int} (hx : c2 idxD (c2 idxD (cVar 0) (cVar 4)) (cVar 6) Γ σ = some (.int x, σ)) (hl : cVar 3 Γ σ = some (.int ld, σ)) (hf : cVar 5 Γ σ = some (.int fi, σ)) (hy : c2 idxD (c2 idxD (cVar 0) (cVar 1)) (cVar 6) Γ σ = some (.int y, σ)) (ha : cVar 2 Γ σ = some (.int ah, σ))
    (sx : small x = true) (sf : small fi = true) (na : ah ≠ 0) (sa : small ah = true) (hq : (x * ld - fi * y).fdiv ah = q) (ht : tSub (c2 idxD (cVar 0) (cVar 4)) (cVar 6) (.int q) Γ σ = some (Γ, σ')) : bIn Γ σ = some (.next, Γ, σ') := by
  refine (bCons_next (assign_run (d := .int q) (c2_run (sub_run (mul_run hx hl sx) (mul_run hf hy sf)) ha ?_) ht)).trans rfl
  show (if ah = 0 then none else if small ah then some (D.int ((x * ld - fi * y).fdiv ah), σ) else none) = _
  rw [if_neg na, if_pos sa, hq]
theorem piv_run {r s : Nat} {rows : List D} {x : Int} {rest : List D} (hr : iRng2 (cVar 1) (c1 lenD (cVar 0)) [some (.ref r), some (nD s), none] σ = some (nD s :: rest, σ)) (hx : c2 idxD (c2 idxD (cVar 0) (cVar 2)) (cVar 1) [some (.ref r), some (nD s), some (nD s)] σ = some (.int x, σ)) (h0 : nz x = true) :
    pivot_rowF [.ref r, nD s] σ = some (nD s, σ) := by
  have hq : qVal (c2 neD (c2 idxD (c2 idxD (cVar 0) (cVar 2)) (cVar 1)) (cK (.int 0))) [some (.ref r), some (nD s), some (nD s)] σ = some (true, σ) := by
    refine qv_run (c2_run hx rfl ?_)
    show some (D.bool (x != 0), σ) = _
    rw [bne_iff_ne.mpr (nz_ne h0)]
  refine ret_self (Γ' := [some (.ref r), some (nD s), some (nD s)]) rfl ?_
  show bCons (sFor _ _ _) _ _ σ = _
  unfold bCons sFor
  rw [show iRng2 (cVar 1) (c1 lenD (cVar 0)) ([D.ref r, nD s].map some ++ List.replicate (3 - 2) none) σ = some (nD s :: rest, σ) from hr]
  simp only [Option.bind_some]
  rw [forL, show tVar 2 (nD s) ([D.ref r, nD s].map some ++ List.replicate (3 - 2) none) σ = some ([some (.ref r), some (nD s), some (nD s)], σ) from rfl]
  simp only [Option.bind_some]
  rw [if_run hq]; rfl
theorem it_run {M e1 : Option D} {r s : Nat} {ah y : Int} (hp : pivot_rowF [.ref r, nD s] σ = some (nD s, σ)) (hb : bareiss_stepF [.ref r, nD s, .int ah] σ = some (.none, σ'))
    (hy : c2 idxD (c2 idxD (cVar 2) (cVar 5)) (cVar 5) [M, some (nD s), some (.ref r), some (.int 1), some (.int ah), some (nD s)] σ' = some (.int y, σ')) :
    dB [M, e1, some (.ref r), some (.int 1), some (.int ah), some (nD s)] σ = some (.next, [M, some (nD s), some (.ref r), some (.int 1), some (.int y), some (nD s)], σ') := by
  have s1 : sAssign (cCall pivot_rowF (cCons (cVar 2) (cCons (cVar 5) cNil))) (tVar 1) [M, e1, some (.ref r), some (.int 1), some (.int ah), some (nD s)] σ = some (.next, [M, some (nD s), some (.ref r), some (.int 1), some (.int ah), some (nD s)], σ) :=
    assign_run (call2_run rfl rfl hp) rfl
  have q3 : qVal (c2 neD (cVar 1) (cVar 5)) [M, some (nD s), some (.ref r), some (.int 1), some (.int ah), some (nD s)] σ = some (false, σ) := by
    refine qv_run (c2_run (p := nD s) (q := nD s) rfl rfl ?_)
    show some (D.bool ((s : Int) != (s : Int)), σ) = _
    rw [bne_self_eq_false]
  have s4 : sExpr (cCall bareiss_stepF (cCons (cVar 2) (cCons (cVar 5) (cCons (cVar 4) cNil)))) [M, some (nD s), some (.ref r), some (.int 1), some (.int ah), some (nD s)] σ = some (.next, [M, some (nD s), some (.ref r), some (.int 1), some (.int ah), some (nD s)], σ') :=
    expr_run (call_run (ds := [.ref r, nD s, .int ah]) rfl hb)
  exact (bCons_next s1).trans ((bCons_next (show _ = some (_, _) from rfl)).trans ((bCons_next ((if_run q3).trans rfl)).trans ((bCons_next s4).trans ((bCons_next (assign_run hy rfl)).trans rfl))))
end
section
variable {it : ICmd} {t : TCmd} {b : SCmd} {Γ Γ1 Γ2 Γ3 Γ4 Γ5 Γ6 : Gam} {σ σ2 σ3 σ4 : Sto} {d d' d'' : D}
theorem for1 (hi : it Γ σ = some ([d], σ)) (ht : t d Γ σ = some (Γ1, σ)) (hb : b Γ1 σ = some (.next, Γ2, σ2)) : sFor it t b Γ σ = some (.next, Γ2, σ2) := by
  unfold sFor; rw [hi]; exact forL_next ht hb
theorem for2 (hi : it Γ σ = some ([d, d'], σ)) (ht : t d Γ σ = some (Γ1, σ)) (hb : b Γ1 σ = some (.next, Γ2, σ2)) (ht' : t d' Γ2 σ2 = some (Γ3, σ2)) (hb' : b Γ3 σ2 = some (.next, Γ4, σ3)) : sFor it t b Γ σ = some (.next, Γ4, σ3) := by
  unfold sFor; rw [hi]; exact (forL_next ht hb).trans (forL_next ht' hb')
theorem for3 (hi : it Γ σ = some ([d, d', d''], σ)) (ht : t d Γ σ = some (Γ1, σ)) (hb : b Γ1 σ = some (.next, Γ2, σ2)) (ht' : t d' Γ2 σ2 = some (Γ3, σ2)) (hb' : b Γ3 σ2 = some (.next, Γ4, σ3)) (ht'' : t d'' Γ4 σ3 = some (Γ5, σ3)) (hb'' : b Γ5 σ3 = some (.next, Γ6, σ4)) :
    sFor it t b Γ σ = some (.next, Γ6, σ4) := by
  unfold sFor; rw [hi]; exact (forL_next ht hb).trans ((forL_next ht' hb').trans (forL_next ht'' hb''))
end
noncomputable def Y2 (L : List D) (k : Int) (a b c d : Int) : Sto := [[.lst L, .int k], [.int a, .int b], [.int c, .int d], [.ref 1, .ref 2]]
noncomputable def Y3 (L : List D) (k : Int) (a b c d e f g h i : Int) : Sto := [[.lst L, .int k], [.int a, .int b, .int c], [.int d, .int e, .int f], [.int g, .int h, .int i], [.ref 1, .ref 2, .ref 3]]
section
variable {L : List D} {k : Int}
theorem bar2 {a b c d q : Int} (sd : small d = true) (sc : small c = true) (hq : (d * a - c * b).fdiv 1 = q) : bareiss_stepF [.ref 3, nD 0, .int 1] (Y2 L k a b c d) = some (.none, Y2 L k a b 0 q) := by
  have u : bIn [some (.ref 3), some (nD 0), some (.int 1), some (.int a), some (nD 1), some (.int c), some (nD 1)] (Y2 L k a b c d) = some (.next, [some (.ref 3), some (nD 0), some (.int 1), some (.int a), some (nD 1), some (.int c), some (nD 1)], Y2 L k a b c q) :=
    upd_run (x := d) (y := b) rfl rfl rfl rfl rfl sd sc (by decide) rfl hq rfl
  have o : bOut [some (.ref 3), some (nD 0), some (.int 1), some (.int a), some (nD 1), none, none] (Y2 L k a b c d) = some (.next, [some (.ref 3), some (nD 0), some (.int 1), some (.int a), some (nD 1), some (.int c), some (nD 1)], Y2 L k a b 0 q) :=
    (bCons_next (Γ' := [some (.ref 3), some (nD 0), some (.int 1), some (.int a), some (nD 1), some (.int c), none]) (σ' := Y2 L k a b c d) rfl).trans ((bCons_next (for1 (d := nD 1) rfl rfl u)).trans rfl)
  have h : c_bareiss_step [some (.ref 3), some (nD 0), some (.int 1), none, none, none, none] (Y2 L k a b c d) = some (.next, [some (.ref 3), some (nD 0), some (.int 1), some (.int a), some (nD 1), some (.int c), some (nD 1)], Y2 L k a b 0 q) :=
    (bCons_next (Γ' := [some (.ref 3), some (nD 0), some (.int 1), some (.int a), none, none, none]) (σ' := Y2 L k a b c d) rfl).trans ((bCons_next (for1 (d := nD 1) rfl rfl o)).trans rfl)
  exact mkFn_end rfl h (finish_same rfl)
theorem bar3a {a b c d e f g h i x11 x12 x21 x22 : Int} (se : small e = true) (sd : small d = true) (sf : small f = true) (sh : small h = true) (sg : small g = true) (si : small i = true)
    (e1 : (e * a - d * b).fdiv 1 = x11) (e2 : (f * a - d * c).fdiv 1 = x12) (e3 : (h * a - g * b).fdiv 1 = x21) (e4 : (i * a - g * c).fdiv 1 = x22) :
    bareiss_stepF [.ref 4, nD 0, .int 1] (Y3 L k a b c d e f g h i) = some (.none, Y3 L k a b c 0 x11 x12 0 x21 x22) := by
  have u1 : bIn [some (.ref 4), some (nD 0), some (.int 1), some (.int a), some (nD 1), some (.int d), some (nD 1)] (Y3 L k a b c d e f g h i) = some (.next, [some (.ref 4), some (nD 0), some (.int 1), some (.int a), some (nD 1), some (.int d), some (nD 1)], Y3 L k a b c d x11 f g h i) :=
    upd_run (x := e) (y := b) rfl rfl rfl rfl rfl se sd (by decide) rfl e1 rfl
  have u2 : bIn [some (.ref 4), some (nD 0), some (.int 1), some (.int a), some (nD 1), some (.int d), some (nD 2)] (Y3 L k a b c d x11 f g h i) = some (.next, [some (.ref 4), some (nD 0), some (.int 1), some (.int a), some (nD 1), some (.int d), some (nD 2)], Y3 L k a b c d x11 x12 g h i) :=
    upd_run (x := f) (y := c) rfl rfl rfl rfl rfl sf sd (by decide) rfl e2 rfl
  have u3 : bIn [some (.ref 4), some (nD 0), some (.int 1), some (.int a), some (nD 2), some (.int g), some (nD 1)] (Y3 L k a b c 0 x11 x12 g h i) = some (.next, [some (.ref 4), some (nD 0), some (.int 1), some (.int a), some (nD 2), some (.int g), some (nD 1)], Y3 L k a b c 0 x11 x12 g x21 i) :=
    upd_run (x := h) (y := b) rfl rfl rfl rfl rfl sh sg (by decide) rfl e3 rfl
  have u4 : bIn [some (.ref 4), some (nD 0), some (.int 1), some (.int a), some (nD 2), some (.int g), some (nD 2)] (Y3 L k a b c 0 x11 x12 g x21 i) = some (.next, [some (.ref 4), some (nD 0), some (.int 1), some (.int a), some (nD 2), some (.int g), some (nD 2)], Y3 L k a b c 0 x11 x12 g x21 x22) :=
    upd_run (x := i) (y := c) rfl rfl rfl rfl rfl si sg (by decide) rfl e4 rfl
  have o1 : bOut [some (.ref 4), some (nD 0), some (.int 1), some (.int a), some (nD 1), none, none] (Y3 L k a b c d e f g h i) = some (.next, [some (.ref 4), some (nD 0), some (.int 1), some (.int a), some (nD 1), some (.int d), some (nD 2)], Y3 L k a b c 0 x11 x12 g h i) :=
    (bCons_next (Γ' := [some (.ref 4), some (nD 0), some (.int 1), some (.int a), some (nD 1), some (.int d), none]) (σ' := Y3 L k a b c d e f g h i) rfl).trans
      ((bCons_next (for2 (d := nD 1) (d' := nD 2) rfl rfl u1 rfl u2)).trans rfl)
  have o2 : bOut [some (.ref 4), some (nD 0), some (.int 1), some (.int a), some (nD 2), some (.int d), some (nD 2)] (Y3 L k a b c 0 x11 x12 g h i) = some (.next, [some (.ref 4), some (nD 0), some (.int 1), some (.int a), some (nD 2), some (.int g), some (nD 2)], Y3 L k a b c 0 x11 x12 0 x21 x22) :=
    (bCons_next (Γ' := [some (.ref 4), some (nD 0), some (.int 1), some (.int a), some (nD 2), some (.int g), some (nD 2)]) (σ' := Y3 L k a b c 0 x11 x12 g h i) rfl).trans
      ((bCons_next (for2 (d := nD 1) (d' := nD 2) rfl rfl u3 rfl u4)).trans rfl)
  have hh : c_bareiss_step [some (.ref 4), some (nD 0), some (.int 1), none, none, none, none] (Y3 L k a b c d e f g h i) = some (.next, [some (.ref 4), some (nD 0), some (.int 1), some (.int a), some (nD 2), some (.int g), some (nD 2)], Y3 L k a b c 0 x11 x12 0 x21 x22) :=
    (bCons_next (Γ' := [some (.ref 4), some (nD 0), some (.int 1), some (.int a), none, none, none]) (σ' := Y3 L k a b c d e f g h i) rfl).trans
      ((bCons_next (for2 (d := nD 1) (d' := nD 2) rfl rfl o1 rfl o2)).trans rfl)
  exact mkFn_end rfl hh (finish_same rfl)
theorem bar3b {a b c d e f g h i y : Int} (ha : a ≠ 0) (sa : small a = true) (si : small i = true) (sh : small h = true) (e1 : (i * e - h * f).fdiv a = y) :
    bareiss_stepF [.ref 4, nD 1, .int a] (Y3 L k a b c d e f g h i) = some (.none, Y3 L k a b c d e f g 0 y) := by
  have u1 : bIn [some (.ref 4), some (nD 1), some (.int a), some (.int e), some (nD 2), some (.int h), some (nD 2)] (Y3 L k a b c d e f g h i) = some (.next, [some (.ref 4), some (nD 1), some (.int a), some (.int e), some (nD 2), some (.int h), some (nD 2)], Y3 L k a b c d e f g h y) :=
    upd_run (x := i) (y := f) rfl rfl rfl rfl rfl si sh ha sa e1 rfl
  have o1 : bOut [some (.ref 4), some (nD 1), some (.int a), some (.int e), some (nD 2), none, none] (Y3 L k a b c d e f g h i) = some (.next, [some (.ref 4), some (nD 1), some (.int a), some (.int e), some (nD 2), some (.int h), some (nD 2)], Y3 L k a b c d e f g 0 y) :=
    (bCons_next (Γ' := [some (.ref 4), some (nD 1), some (.int a), some (.int e), some (nD 2), some (.int h), none]) (σ' := Y3 L k a b c d e f g h i) rfl).trans
      ((bCons_next (for1 (d := nD 2) rfl rfl u1)).trans rfl)
  have hh : c_bareiss_step [some (.ref 4), some (nD 1), some (.int a), none, none, none, none] (Y3 L k a b c d e f g h i) = some (.next, [some (.ref 4), some (nD 1), some (.int a), some (.int e), some (nD 2), some (.int h), some (nD 2)], Y3 L k a b c d e f g 0 y) :=
    (bCons_next (Γ' := [some (.ref 4), some (nD 1), some (.int a), some (.int e), none, none, none]) (σ' := Y3 L k a b c d e f g h i) rfl).trans
      ((bCons_next (for1 (d := nD 2) rfl rfl o1)).trans rfl)
  exact mkFn_end rfl hh (finish_same rfl)
theorem det_fin {M : D} {y : Int} {τ : Sto} (hL : IntsL L) (ht : τ ≠ []) (hc : ∃ Γ', c_determinant [some M, none, none, none, none, none] (pool L k) = some (.ret (.int y), Γ', pool L k ++ τ)) : determinantF [M] (pool L k) = some (.int y, pool L k) :=
  hc.elim fun _ hc => mkFn_run rfl hc (finish_inv (inv_pool hL) ht rfl)
theorem ret_det {M e1 e5 : Option D} {r : Nat} {y : Int} {σ : Sto} : bCons (sRet (c2 mulD (cVar 3) (cVar 4))) bNil [M, e1, some (.ref r), some (.int 1), some (.int y), e5] σ = some (.ret (.int y), [M, e1, some (.ref r), some (.int 1), some (.int y), e5], σ) := by
  refine ret_run (d := .int y) ?_
  rw [mul_run (p := 1) (q := y) rfl rfl rfl, Int.one_mul]
theorem det1_run {a : Int} (hL : IntsL L) (ha : nz a = true) : determinantF [imatD [[a]]] (pool L k) = some (.int a, pool L k) := by
  have i0 := it_run (M := some (imatD [[a]])) (e1 := none) (r := 2) (s := 0) (ah := 1) (y := a) (σ := [[.lst L, .int k], [.int a], [.ref 1]]) (σ' := [[.lst L, .int k], [.int a], [.ref 1]]) (piv_run (rows := [.ref 1]) rfl rfl ha) rfl rfl
  refine det_fin (τ := [[.int a], [.ref 1]]) hL (List.cons_ne_nil _ _) ?_
  rw [c_det_eq]
  exact ⟨_, (bCons_next (show _ = some (_, _) from rfl)).trans ((bCons_next (Γ' := [some (imatD [[a]]), none, some (.ref 2), some (.int 1), some (.int 1), none]) (σ' := [[.lst L, .int k], [.int a], [.ref 1]]) rfl).trans
    ((bCons_next (for1 (d := nD 0) rfl rfl i0)).trans ret_det))⟩
theorem det2_run {a b c d : Int} (hL : IntsL L) (ha : nz a = true) (hq : nz (d * a - c * b) = true) (sd : small d = true) (sc : small c = true) : determinantF [imatD [[a, b], [c, d]]] (pool L k) = some (.int (d * a - c * b), pool L k) := by
  have i0 := it_run (M := some (imatD [[a, b], [c, d]])) (e1 := none) (r := 3) (s := 0) (ah := 1) (y := a) (piv_run (rows := [.ref 1, .ref 2]) rfl rfl ha) (bar2 (L := L) (k := k) (b := b) sd sc (Int.fdiv_one _)) rfl
  have i1 := it_run (M := some (imatD [[a, b], [c, d]])) (e1 := some (nD 0)) (r := 3) (s := 1) (ah := a) (y := d * a - c * b) (σ := Y2 L k a b 0 (d * a - c * b)) (σ' := Y2 L k a b 0 (d * a - c * b)) (piv_run (rows := [.ref 1, .ref 2]) rfl rfl hq) rfl rfl
  refine det_fin (τ := [[.int a, .int b], [.int 0, .int (d * a - c * b)], [.ref 1, .ref 2]]) hL (List.cons_ne_nil _ _) ?_
  rw [c_det_eq]
  exact ⟨_, (bCons_next (show _ = some (_, _) from rfl)).trans ((bCons_next (Γ' := [some (imatD [[a, b], [c, d]]), none, some (.ref 3), some (.int 1), some (.int 1), none]) (σ' := Y2 L k a b c d) rfl).trans
    ((bCons_next (for2 (d := nD 0) (d' := nD 1) rfl rfl i0 rfl i1)).trans ret_det))⟩
theorem det3_run {a b c d e f g h i y : Int} (hL : IntsL L) (ha : nz a = true) (sa : small a = true) (se : small e = true) (sd : small d = true) (sf : small f = true) (sh : small h = true) (sg : small g = true) (si : small i = true)
    (hx : nz (e * a - d * b) = true) (s22 : small (i * a - g * c) = true) (s21 : small (h * a - g * b) = true) (s11 : small (e * a - d * b) = true)
    (e5 : ((i * a - g * c) * (e * a - d * b) - (h * a - g * b) * (f * a - d * c)).fdiv a = y) (hy : nz y = true) : determinantF [imatD [[a, b, c], [d, e, f], [g, h, i]]] (pool L k) = some (.int y, pool L k) := by
  have i0 := it_run (M := some (imatD [[a, b, c], [d, e, f], [g, h, i]])) (e1 := none) (r := 4) (s := 0) (ah := 1) (y := a) (piv_run (rows := [.ref 1, .ref 2, .ref 3]) rfl rfl ha) (bar3a (L := L) (k := k) (b := b) (c := c) se sd sf sh sg si (Int.fdiv_one _) (Int.fdiv_one _) (Int.fdiv_one _) (Int.fdiv_one _)) rfl
  have i1 := it_run (M := some (imatD [[a, b, c], [d, e, f], [g, h, i]])) (e1 := some (nD 0)) (r := 4) (s := 1) (ah := a) (y := e * a - d * b) (piv_run (rows := [.ref 1, .ref 2, .ref 3]) rfl rfl hx) (bar3b (L := L) (k := k) (b := b) (c := c) (d := 0) (g := 0) (nz_ne ha) sa s22 s21 e5) rfl
  have i2 := it_run (M := some (imatD [[a, b, c], [d, e, f], [g, h, i]])) (e1 := some (nD 1)) (r := 4) (s := 2) (ah := e * a - d * b) (y := y) (σ := Y3 L k a b c 0 (e * a - d * b) (f * a - d * c) 0 0 y) (σ' := Y3 L k a b c 0 (e * a - d * b) (f * a - d * c) 0 0 y) (piv_run (rows := [.ref 1, .ref 2, .ref 3]) rfl rfl hy) rfl rfl
  refine det_fin (τ := [[.int a, .int b, .int c], [.int 0, .int (e * a - d * b), .int (f * a - d * c)], [.int 0, .int 0, .int y], [.ref 1, .ref 2, .ref 3]]) hL (List.cons_ne_nil _ _) ?_
  rw [c_det_eq]
  exact ⟨_, (bCons_next (show _ = some (_, _) from rfl)).trans ((bCons_next (Γ' := [some (imatD [[a, b, c], [d, e, f], [g, h, i]]), none, some (.ref 4), some (.int 1), some (.int 1), none]) (σ' := Y3 L k a b c d e f g h i) rfl).trans
    ((bCons_next (for3 (d := nD 0) (d' := nD 1) (d'' := nD 2) rfl rfl i0 rfl i1 rfl i2)).trans ret_det))⟩
end
noncomputable def d2P (a b c d : Int) : Option Int := match nz a && nz (d * a - c * b) && small d && small c with | true => some (d * a - c * b) | false => none
noncomputable def nzO (y : Int) : Option Int := match nz y with | true => some y | false => none
noncomputable def d3P (a b c d e f g h i : Int) : Option Int := match nz a && small a && small e && small d && small f && small h && small g && small i && nz (e * a - d * b) && small (i * a - g * c) && small (h * a - g * b) && small (e * a - d * b) with
  | true => nzO (((i * a - g * c) * (e * a - d * b) - (h * a - g * b) * (f * a - d * c)).fdiv a)
  | false => none
noncomputable def r2P (a b : Int) : List Int → Option Int
  | [c, d] => d2P a b c d
  | _ => none
noncomputable def r3Q (a b c d e f : Int) : List Int → Option Int
  | [g, h, i] => d3P a b c d e f g h i
  | _ => none
noncomputable def r3P (a b c : Int) : List Int → List Int → Option Int
  | [d, e, f], r => r3Q a b c d e f r
  | _, _ => none
/-- the determinant of a square of at most three rows, None where a pivot is zero or a number large -/
noncomputable def detP : List (List Int) → Option Int
  | [] => none
  | [a] :: l => (match l with | [] => nzO a | _ => none)
  | [a, b] :: l => (match l with | [r] => r2P a b r | _ => none)
  | [a, b, c] :: l => (match l with | [r, s] => r3P a b c r s | _ => none)
  | _ => none
theorem nzO_eq {y z : Int} (h : nzO y = some z) : nz y = true ∧ y = z := by
  unfold nzO at h
  cases q : nz y with
  | true => rw [q] at h; cases h; exact ⟨rfl, rfl⟩
  | false => rw [q] at h; cases h
theorem r2P_eq {a b y : Int} : ∀ {r : List Int}, r2P a b r = some y → ∃ c d, r = [c, d] ∧ d2P a b c d = some y
  | [c, d], h => ⟨c, d, rfl, h⟩
  | [], h => nomatch h
  | [_], h => nomatch h
  | _ :: _ :: _ :: _, h => nomatch h
theorem r3Q_eq {a b c d e f y : Int} : ∀ {r : List Int}, r3Q a b c d e f r = some y → ∃ g h i, r = [g, h, i] ∧ d3P a b c d e f g h i = some y
  | [g, h, i], hh => ⟨g, h, i, rfl, hh⟩
  | [], h => nomatch h
  | [_], h => nomatch h
  | [_, _], h => nomatch h
  | _ :: _ :: _ :: _ :: _, h => nomatch h
theorem r3P_eq {a b c y : Int} {s : List Int} : ∀ {r : List Int}, r3P a b c r s = some y → ∃ d e f, r = [d, e, f] ∧ r3Q a b c d e f s = some y
  | [d, e, f], hh => ⟨d, e, f, rfl, hh⟩
  | [], h => nomatch h
  | [_], h => nomatch h
  | [_, _], h => nomatch h
  | _ :: _ :: _ :: _ :: _, h => nomatch h
theorem det_eq2 {a b c d y : Int} {L : List D} {k : Int} (hL : IntsL L) (h' : d2P a b c d = some y) : determinantF [imatD [[a, b], [c, d]]] (pool L k) = some (.int y, pool L k) := by
  unfold d2P at h'
  cases q : nz a && nz (d * a - c * b) && small d && small c with
  | false => rw [q] at h'; cases h'
  | true =>
    rw [q] at h'; cases h'
    simp only [Bool.and_eq_true] at q
    exact det2_run hL q.1.1.1 q.1.1.2 q.1.2 q.2
theorem det_eq3 {a b c d e f g h i y : Int} {L : List D} {k : Int} (hL : IntsL L) (h' : d3P a b c d e f g h i = some y) : determinantF [imatD [[a, b, c], [d, e, f], [g, h, i]]] (pool L k) = some (.int y, pool L k) := by
  unfold d3P at h'
  cases q : nz a && small a && small e && small d && small f && small h && small g && small i && nz (e * a - d * b) && small (i * a - g * c) && small (h * a - g * b) && small (e * a - d * b) with
  | false => rw [q] at h'; cases h'
  | true =>
    rw [q] at h'
    obtain ⟨h1, h2⟩ := nzO_eq h'
    simp only [Bool.and_eq_true] at q
    obtain ⟨⟨⟨⟨⟨⟨⟨⟨⟨⟨⟨k1, k2⟩, k3⟩, k4⟩, k5⟩, k6⟩, k7⟩, k8⟩, k9⟩, k10⟩, k11⟩, k12⟩ := q
    exact det3_run hL k1 k2 k3 k4 k5 k6 k7 k8 k9 k10 k11 k12 h2 (h2 ▸ h1)
theorem det_eq {m : List (List Int)} {y : Int} {L : List D} {k : Int} (hL : IntsL L) (h : detP m = some y) : determinantF [imatD m] (pool L k) = some (.int y, pool L k) := by
  cases m with
  | nil => cases h
  | cons r l =>
    match r, h with
    | [], h => cases h
    | [a], h =>
      cases l with
      | nil =>
        obtain ⟨h1, rfl⟩ := nzO_eq (show nzO a = some y from h)
        exact det1_run hL h1
      | cons _ _ => cases h
    | [a, b], h =>
      match l, h with
      | [], h => cases h
      | [s], h =>
        obtain ⟨c, d, rfl, h⟩ := r2P_eq (show r2P a b s = some y from h)
        exact det_eq2 hL h
      | _ :: _ :: _, h => cases h
    | [a, b, c], h =>
      match l, h with
      | [], h => cases h
      | [_], h => cases h
      | [s, t], h =>
        obtain ⟨d, e, f, rfl, h⟩ := r3P_eq (show r3P a b c s t = some y from h)
        obtain ⟨g, h, i, rfl, h⟩ := r3Q_eq h
        exact det_eq3 hL h
      | _ :: _ :: _ :: _, h => cases h
    | _ :: _ :: _ :: _ :: _, h => cases h
end Mine
-- H19
set_option maxHeartbeats 4000000
namespace Mine
open PySem PySem.W PyProof.Rows
noncomputable def ls3 (a b c : Int) : List Line := [(0, 1, a), (0, 2, b), (1, 2, c)]
noncomputable def ls4 (a b c d e f : Int) : List Line := [(0, 1, a), (0, 2, b), (0, 3, c), (1, 2, d), (1, 3, e), (2, 3, f)]
noncomputable def ways3 : List (List Nat) := [[0, 1], [0, 2], [1, 2]]
noncomputable def ways4 : List (List Nat) := [[0, 1, 2], [0, 2, 3], [1, 2, 3], [0, 1, 4], [1, 2, 4], [0, 3, 4], [1, 3, 4], [2, 3, 4], [0, 1, 5], [0, 2, 5], [0, 3, 5], [1, 3, 5], [2, 3, 5], [0, 4, 5], [1, 4, 5], [2, 4, 5]]
noncomputable def M3 (a b c : Int) : List (List Int) := [[0 + a + b, 0 - a, 0 - b], [0 - a, 0 + a + c, 0 - c], [0 - b, 0 - c, 0 + b + c]]
noncomputable def M4 (a b c d e f : Int) : List (List Int) := [[0 + a + b + c, 0 - a, 0 - b, 0 - c], [0 - a, 0 + a + d + e, 0 - d, 0 - e], [0 - b, 0 - d, 0 + b + d + f, 0 - f], [0 - c, 0 - e, 0 - f, 0 + c + e + f]]
section
variable {L : List D} {k : Int} (hL : IntsL L) {a b c d e f : Int}
include hL
theorem ways3_eq : law_waysF [nD 3, .lst (linesD (ls3 a b c))] (pool L k) = some (waysD ways3, pool L k) := fn_runX hL rfl (by kernel_rfl)
theorem ways4_eq : law_waysF [nD 4, .lst (linesD (ls4 a b c d e f))] (pool L k) = some (waysD ways4, pool L k) := fn_runX hL rfl (by kernel_rfl)
theorem mat3_eq : law_matrixF [nD 3, .lst (linesD (ls3 a b c))] (pool L k) = some (imatD (M3 a b c), pool L k) := fn_runX hL rfl (by kernel_rfl)
theorem mat4_eq : law_matrixF [nD 4, .lst (linesD (ls4 a b c d e f))] (pool L k) = some (imatD (M4 a b c d e f), pool L k) := fn_runX hL rfl (by kernel_rfl)
end
end Mine
-- H20
set_option maxHeartbeats 4000000
namespace Mine
open PySem PySem.W PyProof.Rows
noncomputable def ent (m : List (List Int)) (i j : Nat) : Int := (((m[i]?).getD [])[j]?).getD 0
noncomputable def leftI (n : Nat) (ks : List Nat) : List Nat := (List.range' 0 n).filter fun i => !ks.any (fun k => Nat.beq k i)
noncomputable def woP (n : Nat) (ks : List Nat) (m : List (List Int)) : List (List Int) := (leftI n ks).map fun i => (leftI n ks).map fun j => ent m i j
section
variable {L : List D} {k : Int} (hL : IntsL L) {a00 a01 a02 a03 a10 a11 a12 a13 a20 a21 a22 a23 a30 a31 a32 a33 : Int}
include hL
theorem wo3_pair : ∀ p ∈ [(0, 1), (0, 2), (1, 2)], law_withoutF [imatD [[a00, a01, a02], [a10, a11, a12], [a20, a21, a22]], .tup [nD p.1, nD p.2]] (pool L k) = some (imatD (woP 3 [p.1, p.2] [[a00, a01, a02], [a10, a11, a12], [a20, a21, a22]]), pool L k) := by
  simp only [List.forall_mem_cons]
  exact ⟨fn_runX hL rfl (by kernel_rfl), fn_runX hL rfl (by kernel_rfl), fn_runX hL rfl (by kernel_rfl), fun _ h => nomatch h⟩
theorem wo3_one : ∀ p ∈ [0, 1, 2], law_withoutF [imatD [[a00, a01, a02], [a10, a11, a12], [a20, a21, a22]], .lst [nD p]] (pool L k) = some (imatD (woP 3 [p] [[a00, a01, a02], [a10, a11, a12], [a20, a21, a22]]), pool L k) := by
  simp only [List.forall_mem_cons]
  exact ⟨fn_runX hL rfl (by kernel_rfl), fn_runX hL rfl (by kernel_rfl), fn_runX hL rfl (by kernel_rfl), fun _ h => nomatch h⟩
theorem wo4_pair : ∀ p ∈ [(0, 1), (0, 2), (0, 3), (1, 2), (1, 3), (2, 3)], law_withoutF [imatD [[a00, a01, a02, a03], [a10, a11, a12, a13], [a20, a21, a22, a23], [a30, a31, a32, a33]], .tup [nD p.1, nD p.2]] (pool L k) =
    some (imatD (woP 4 [p.1, p.2] [[a00, a01, a02, a03], [a10, a11, a12, a13], [a20, a21, a22, a23], [a30, a31, a32, a33]]), pool L k) := by
  simp only [List.forall_mem_cons]
  exact ⟨fn_runX hL rfl (by kernel_rfl), fn_runX hL rfl (by kernel_rfl), fn_runX hL rfl (by kernel_rfl), fn_runX hL rfl (by kernel_rfl), fn_runX hL rfl (by kernel_rfl), fn_runX hL rfl (by kernel_rfl), fun _ h => nomatch h⟩
theorem wo4_one : ∀ p ∈ [0, 1, 2, 3], law_withoutF [imatD [[a00, a01, a02, a03], [a10, a11, a12, a13], [a20, a21, a22, a23], [a30, a31, a32, a33]], .lst [nD p]] (pool L k) =
    some (imatD (woP 4 [p] [[a00, a01, a02, a03], [a10, a11, a12, a13], [a20, a21, a22, a23], [a30, a31, a32, a33]]), pool L k) := by
  simp only [List.forall_mem_cons]
  exact ⟨fn_runX hL rfl (by kernel_rfl), fn_runX hL rfl (by kernel_rfl), fn_runX hL rfl (by kernel_rfl), fn_runX hL rfl (by kernel_rfl), fun _ h => nomatch h⟩
theorem fw2 : from_wholeF [imatD [[a00, a01], [a10, a11]]] (pool L k) = some (matO [[a00, a01], [a10, a11]], pool L k) := fn_runX hL rfl (by kernel_rfl)
theorem fw3 : from_wholeF [imatD [[a00, a01, a02], [a10, a11, a12], [a20, a21, a22]]] (pool L k) = some (matO [[a00, a01, a02], [a10, a11, a12], [a20, a21, a22]], pool L k) := fn_runX hL rfl (by kernel_rfl)
theorem fw4 : from_wholeF [imatD [[a00, a01, a02, a03], [a10, a11, a12, a13], [a20, a21, a22, a23], [a30, a31, a32, a33]]] (pool L k) =
    some (matO [[a00, a01, a02, a03], [a10, a11, a12, a13], [a20, a21, a22, a23], [a30, a31, a32, a33]], pool L k) := fn_runX hL rfl (by kernel_rfl)
end
noncomputable def row1 (r : List Int) : IRow := (1, r)
theorem nfRow1 (r : List Int) : nfRow (row1 r) = rowO r := by
  unfold nfRow row1 rowO nfL
  refine congrArg D.lst (List.map_congr_left fun t _ => ?_)
  exact qD_one
theorem map_nfRow1 (m : List (List Int)) : (m.map row1).map nfRow = m.map rowO := by
  rw [List.map_map]; exact List.map_congr_left fun r _ => nfRow1 r
theorem goodRow1 {w : Nat} {m : List (List Int)} (hs : (m.all fun r => r.all small && Nat.beq r.length w) = true) : ∀ r ∈ m.map row1, GoodR w r := fun r hr => by
  obtain ⟨q, hq, rfl⟩ := List.mem_map.mp hr
  have := List.all_eq_true.mp hs q hq
  simp only [Bool.and_eq_true, List.all_eq_true] at this
  exact ⟨by show (0 : Int) < 1; omega, rfl, this.1, Nat.eq_of_beq_eq_true this.2⟩
-- inverse
noncomputable def inv2rows (a b c d : Int) : List (List Int) := [[a, b, 1, 0], [c, d, 0, 1]]
noncomputable def inv3rows (a b c d e f g h i : Int) : List (List Int) := [[a, b, c, 1, 0, 0], [d, e, f, 0, 1, 0], [g, h, i, 0, 0, 1]]
noncomputable def toldOf (n : Nat) (rows : List IRow) : List (List Q) := rows.map fun r => (r.2.map fun t => nf t r.1).drop n
theorem told_conv (n : Nat) (rows : List IRow) : (D.lst (rows.map fun r => .lst ((nfL r.1 r.2).drop n))) = toldD (toldOf n rows) := by
  unfold toldD toldOf
  rw [List.map_map]
  refine congrArg D.lst (List.map_congr_left fun r _ => ?_)
  show D.lst ((r.2.map fun t => qD (nf t r.1)).drop n) = D.lst (((r.2.map fun t => nf t r.1).drop n).map qD)
  rw [List.map_drop, List.map_map]; rfl
section
variable {L : List D} {k : Int} (hL : IntsL L) {a b c d e f g h i : Int}
include hL
theorem inv2_eq {rows' : List IRow} (he : echI 2 0 ((inv2rows a b c d).map row1) = some rows') (hs : ((inv2rows a b c d).all fun r => r.all small && Nat.beq r.length 4) = true) :
    inverseF [matO [[a, b], [c, d]]] (pool L k) = some (toldD (toldOf 2 rows'), pool L k) := by
  have := inverse_core (σ := pool L k) (A := [rowO [a, b], rowO [c, d]]) (inv_pool hL) (.inl rfl) rfl (shapeO (m := [[a, b], [c, d]]) ⟨rfl, by simp⟩ (by omega) (by omega)) (rows := (inv2rows a b c d).map row1) (rows' := rows')
    (by rw [map_nfRow1]; kernel_rfl) he (goodRow1 hs) rfl
  rw [told_conv] at this
  exact this
theorem inv3_eq {rows' : List IRow} (he : echI 3 0 ((inv3rows a b c d e f g h i).map row1) = some rows') (hs : ((inv3rows a b c d e f g h i).all fun r => r.all small && Nat.beq r.length 6) = true) :
    inverseF [matO [[a, b, c], [d, e, f], [g, h, i]]] (pool L k) = some (toldD (toldOf 3 rows'), pool L k) := by
  have := inverse_core (σ := pool L k) (A := [rowO [a, b, c], rowO [d, e, f], rowO [g, h, i]]) (inv_pool hL) (.inr rfl) rfl (shapeO (m := [[a, b, c], [d, e, f], [g, h, i]]) ⟨rfl, by simp⟩ (by omega) (by omega)) (rows := (inv3rows a b c d e f g h i).map row1) (rows' := rows')
    (by rw [map_nfRow1]; kernel_rfl) he (goodRow1 hs) rfl
  rw [told_conv] at this
  exact this
-- solve
theorem sol2_eq {x y : Int} {rows' rowsA' : List IRow} (he : echI 2 0 ([[a, b, x], [c, d, y]].map row1) = some rows') (hs : ([[a, b, x], [c, d, y]].all fun r => r.all small && Nat.beq r.length 3) = true)
    (heA : echI 2 0 ([[a, b], [c, d]].map row1) = some rowsA') (hsA : ([[a, b], [c, d]].all fun r => r.all small && Nat.beq r.length 2) = true) :
    solve_systemF [matO [[a, b], [c, d]], rowO [x, y]] (pool L k) = some (.tup [.lst (rows'.map (lastD 2)), .lst []], pool L k) := by
  have := solve_core (k := k) hL (rows := [[a, b, x], [c, d, y]].map row1) (rows' := rows') (rowsA := [[a, b], [c, d]].map row1) (rowsA' := rowsA') (B := [oneD x, oneD y]) (.inl rfl) rfl
    (fun τ => by rw [map_nfRow1]; exact shapeO (m := [[a, b], [c, d]]) ⟨rfl, by simp⟩ (by omega) (by omega)) (by rw [map_nfRow1, map_nfRow1]; kernel_rfl) he (goodRow1 hs) rfl heA (goodRow1 hsA) rfl
  rw [map_nfRow1] at this
  exact this
theorem sol3_eq {x y z : Int} {rows' rowsA' : List IRow} (he : echI 3 0 ([[a, b, c, x], [d, e, f, y], [g, h, i, z]].map row1) = some rows') (hs : ([[a, b, c, x], [d, e, f, y], [g, h, i, z]].all fun r => r.all small && Nat.beq r.length 4) = true)
    (heA : echI 3 0 ([[a, b, c], [d, e, f], [g, h, i]].map row1) = some rowsA') (hsA : ([[a, b, c], [d, e, f], [g, h, i]].all fun r => r.all small && Nat.beq r.length 3) = true) :
    solve_systemF [matO [[a, b, c], [d, e, f], [g, h, i]], rowO [x, y, z]] (pool L k) = some (.tup [.lst (rows'.map (lastD 3)), .lst []], pool L k) := by
  have := solve_core (k := k) hL (rows := [[a, b, c, x], [d, e, f, y], [g, h, i, z]].map row1) (rows' := rows') (rowsA := [[a, b, c], [d, e, f], [g, h, i]].map row1) (rowsA' := rowsA') (B := [oneD x, oneD y, oneD z]) (.inr rfl) rfl
    (fun τ => by rw [map_nfRow1]; exact shapeO (m := [[a, b, c], [d, e, f], [g, h, i]]) ⟨rfl, by simp⟩ (by omega) (by omega)) (by rw [map_nfRow1, map_nfRow1]; kernel_rfl) he (goodRow1 hs) rfl heA (goodRow1 hsA) rfl
  rw [map_nfRow1] at this
  exact this
end
end Mine
-- H21
set_option maxHeartbeats 4000000
namespace Mine
open PySem PySem.W PyProof.Rows
noncomputable def diagC : Cmd := cComp [none, none, some 0, some 2] (iRng1 (c1 lenD (cVar 0))) (tVar 1) (fIf (qVal (c2 neD (cVar 1) (cVar 3))) (cTup (cCons (c2 idxD (c2 idxD (cVar 2) (cVar 1)) (cVar 1)) (cCons (cK (.int 1)) cNil))))
theorem steps_core {σ : Sto} {s e : Nat} {A X Y B q : D} {qs : List D} (hse : s ≠ e) (hs : s ≤ 100) (h1 : law_withoutF [A, .lst [nD e]] σ = some (X, σ)) (h2 : from_wholeF [X] σ = some (Y, σ))
    (h3 : diagC [some A, some (nD s), some (nD e), some X, none, none] σ = some (B, σ)) (h4 : solve_systemF [Y, B] σ = some (.tup [.lst qs, .lst []], σ)) (h5 : qs[if s < e then s else s - 1]? = some q) :
    law_stepsF [A, nD s, nD e] σ = some (q, σ) := by
  have s1 : sAssign (cCall law_withoutF (cCons (cVar 0) (cCons (cLst (cCons (cVar 2) cNil)) cNil))) (tVar 3) [some A, some (nD s), some (nD e), none, none, none] σ = some (.next, [some A, some (nD s), some (nD e), some X, none, none], σ) :=
    assign_run (call2_run rfl rfl h1) rfl
  have s2 : sAssign (cCall solve_systemF (cCons (cCall from_wholeF (cCons (cVar 3) cNil)) (cCons diagC cNil))) (tTup [(tVar 4), (tVar 5)]) [some A, some (nD s), some (nD e), some X, none, none] σ =
      some (.next, [some A, some (nD s), some (nD e), some X, some (.lst qs), some (.lst [])], σ) := assign_run (call2_run (call1_run rfl h2) h3 h4) rfl
  refine ret_self (Γ' := [some A, some (nD s), some (nD e), some X, some (.lst qs), some (.lst [])]) rfl ((bCons_next s1).trans ((bCons_next s2).trans (ret_run ?_)))
  have hq : qOr (qVal (c2 isNoneD (cVar 4) (cK .none))) (qVal (c2 neD (cVar 5) (cLst cNil))) [some A, some (nD s), some (nD e), some X, some (.lst qs), some (.lst [])] σ = some (false, σ) := rfl
  have hi : cIf (qVal (c2 ltD (cVar 1) (cVar 2))) (cVar 1) (c2 subD (cVar 1) (cK (.int 1))) [some A, some (nD s), some (nD e), some X, some (.lst qs), some (.lst [])] σ = some (nD (if s < e then s else s - 1), σ) := by
    have hl : qVal (c2 ltD (cVar 1) (cVar 2)) [some A, some (nD s), some (nD e), some X, some (.lst qs), some (.lst [])] σ = some (decide (s < e), σ) := by
      refine qv_run (c2_run rfl rfl ?_)
      show some (D.bool (decide ((s : Int) < (e : Int))), σ) = _
      congr 3
      rw [decide_eq_decide]; omega
    unfold cIf; rw [hl]
    by_cases h : s < e
    · simp only [h, decide_true, Option.bind_some, if_true]; rfl
    · simp only [h, decide_false, Option.bind_some, Bool.false_eq_true, if_false]
      exact sub1_run (by omega) rfl
  show cIf _ _ _ [some A, some (nD s), some (nD e), some X, some (.lst qs), some (.lst [])] σ = _
  unfold cIf
  rw [hq]
  simp only [Option.bind_some, Bool.false_eq_true, if_false]
  exact c2_run rfl hi (idx_lst h5 (by split <;> omega))
noncomputable def degP (n e : Nat) (m : List (List Int)) : List Int := (leftI n [e]).map fun i => ent m i i
noncomputable def augP : List (List Int) → List Int → List (List Int)
  | r :: m, d :: ds => (r ++ [d]) :: augP m ds
  | _, _ => []
noncomputable def smallW (w : Nat) (m : List (List Int)) : Bool := m.all fun r => r.all small && Nat.beq r.length w
/-- the steps from s to e, over the numbers -/
noncomputable def solP (n e : Nat) (m : List (List Int)) : Option (List Q) :=
  match smallW n (augP (woP n [e] m) (degP n e m)) && smallW (n - 1) (woP n [e] m) with
  | false => none
  | true => (echI (n - 1) 0 ((woP n [e] m).map row1)).bind fun _ => (echI (n - 1) 0 ((augP (woP n [e] m) (degP n e m)).map row1)).map fun r => r.map (lastQ (n - 1))
section
variable {L : List D} {k : Int} (hL : IntsL L) {a00 a01 a02 a03 a10 a11 a12 a13 a20 a21 a22 a23 a30 a31 a32 a33 : Int}
include hL
theorem steps3 {s e : Nat} {qs : List Q} {q : Q} (he : e ∈ [0, 1, 2]) (hse : s ≠ e) (hs : s ≤ 100) (h : solP 3 e [[a00, a01, a02], [a10, a11, a12], [a20, a21, a22]] = some qs) (hq : qs[if s < e then s else s - 1]? = some q) :
    law_stepsF [imatD [[a00, a01, a02], [a10, a11, a12], [a20, a21, a22]], nD s, nD e] (pool L k) = some (qD q, pool L k) := by
  unfold solP at h
  split at h
  · cases h
  rename_i hg
  simp only [Bool.and_eq_true] at hg
  simp only [Option.bind_eq_some_iff, Option.map_eq_some_iff] at h
  obtain ⟨rA, eA, r, er, rfl⟩ := h
  have hq' : (r.map (lastD 2))[if s < e then s else s - 1]? = some (qD q) := by
    rw [List.getElem?_map] at hq ⊢
    cases hr : r[if s < e then s else s - 1]? with
    | none => rw [hr] at hq; cases hq
    | some x => rw [hr] at hq; cases hq; rfl
  have wo := wo3_one (k := k) hL (a00 := a00) (a01 := a01) (a02 := a02) (a10 := a10) (a11 := a11) (a12 := a12) (a20 := a20) (a21 := a21) (a22 := a22) e he
  simp only [List.mem_cons, List.not_mem_nil, or_false] at he
  rcases he with rfl | rfl | rfl
  · exact steps_core hse hs wo (fw2 hL) (B := rowO [a11, a22]) (by kernel_rfl) (sol2_eq hL er hg.1 eA hg.2) hq'
  · exact steps_core hse hs wo (fw2 hL) (B := rowO [a00, a22]) (by kernel_rfl) (sol2_eq hL er hg.1 eA hg.2) hq'
  · exact steps_core hse hs wo (fw2 hL) (B := rowO [a00, a11]) (by kernel_rfl) (sol2_eq hL er hg.1 eA hg.2) hq'
theorem steps4 {s e : Nat} {qs : List Q} {q : Q} (he : e ∈ [0, 1, 2, 3]) (hse : s ≠ e) (hs : s ≤ 100) (h : solP 4 e [[a00, a01, a02, a03], [a10, a11, a12, a13], [a20, a21, a22, a23], [a30, a31, a32, a33]] = some qs) (hq : qs[if s < e then s else s - 1]? = some q) :
    law_stepsF [imatD [[a00, a01, a02, a03], [a10, a11, a12, a13], [a20, a21, a22, a23], [a30, a31, a32, a33]], nD s, nD e] (pool L k) = some (qD q, pool L k) := by
  unfold solP at h
  split at h
  · cases h
  rename_i hg
  simp only [Bool.and_eq_true] at hg
  simp only [Option.bind_eq_some_iff, Option.map_eq_some_iff] at h
  obtain ⟨rA, eA, r, er, rfl⟩ := h
  have hq' : (r.map (lastD 3))[if s < e then s else s - 1]? = some (qD q) := by
    rw [List.getElem?_map] at hq ⊢
    cases hr : r[if s < e then s else s - 1]? with
    | none => rw [hr] at hq; cases hq
    | some x => rw [hr] at hq; cases hq; rfl
  have wo := wo4_one (k := k) hL (a00 := a00) (a01 := a01) (a02 := a02) (a03 := a03) (a10 := a10) (a11 := a11) (a12 := a12) (a13 := a13) (a20 := a20) (a21 := a21) (a22 := a22) (a23 := a23) (a30 := a30) (a31 := a31) (a32 := a32) (a33 := a33) e he
  simp only [List.mem_cons, List.not_mem_nil, or_false] at he
  rcases he with rfl | rfl | rfl | rfl
  · exact steps_core hse hs wo (fw3 hL) (B := rowO [a11, a22, a33]) (by kernel_rfl) (sol3_eq hL er hg.1 eA hg.2) hq'
  · exact steps_core hse hs wo (fw3 hL) (B := rowO [a00, a22, a33]) (by kernel_rfl) (sol3_eq hL er hg.1 eA hg.2) hq'
  · exact steps_core hse hs wo (fw3 hL) (B := rowO [a00, a11, a33]) (by kernel_rfl) (sol3_eq hL er hg.1 eA hg.2) hq'
  · exact steps_core hse hs wo (fw3 hL) (B := rowO [a00, a11, a22]) (by kernel_rfl) (sol3_eq hL er hg.1 eA hg.2) hq'
end
end Mine
-- H22
set_option maxHeartbeats 4000000
namespace Mine
open PySem PySem.W PyProof.Rows
noncomputable def eqO (o : Option Int) (v : Int) : Bool := match o with | some x => x == v | none => false
theorem eqO_iff {o : Option Int} {v : Int} (h : eqO o v = true) : o = some v := by
  unfold eqO at h; split at h
  · rw [beq_iff_eq] at h; rw [h]
  · cases h
noncomputable def isSm (o : Option Int) : Bool := match o with | some _ => true | none => false
noncomputable def apO (n : Nat) (A : List (List Int)) (l : Line) : Option Int := detP (woP n [l.1, l.2.1] A)
noncomputable def apf (n : Nat) (A : List (List Int)) (l : Line) : Int := (apO n A l).getD 0
theorem apf_some {n A l} (h : isSm (apO n A l) = true) : apO n A l = some (apf n A l) := by
  unfold apf; cases q : apO n A l with
  | none => rw [q] at h; cases h
  | some v => rfl
noncomputable def le6 (x : Int) : Bool := Nat.ble x.natAbs 1000000
theorem le6_iff {x : Int} (h : le6 x = true) : x.natAbs ≤ 1000000 := Nat.le_of_ble_eq_true h
/-- every pair's check, from the t-th on -/
noncomputable def pfAll (ls : List Line) (ways : List (List Nat)) (n : Nat) (A : List (List Int)) (wh : Int) (T : List (List Q)) : Nat → List Line → Bool
  | _, [] => true
  | t, l :: r => isSm (apO n A l) && le6 (apf n A l) && le6 (wt ls t * apf n A l) && ((wt ls t * apf n A l) == ((ways.filter (hasI t)).map (worthI ls)).sum) && pairOk T l.1 l.2.1 (apf n A l) wh && pfAll ls ways n A wh T (t + 1) r
noncomputable def addL (n : Nat) (A : List (List Int)) (s e : Nat) (mo : Int) : List (List Int) := (List.range' 0 n).map fun i => (List.range' 0 n).map fun j =>
  if (i = s ∧ j = s) ∨ (i = e ∧ j = e) then ent A i j + mo else if (i = s ∧ j = e) ∨ (i = e ∧ j = s) then ent A i j - mo else ent A i j
noncomputable def widAll (n : Nat) (A : List (List Int)) (wh : Int) (ls : List Line) : Bool := ls.all fun l => [1, 2, 3].all fun mo : Int => eqO (detP (woP n [0] (addL n A l.1 l.2.1 mo))) (wh + mo * apf n A l)
noncomputable def stepOk (wh two : Int) (ap : Int) (th bk : Q) : Bool := small th.1 && small th.2 && small bk.1 && small (th.1 * bk.2 + bk.1 * th.2) && small (two * ap) && ((th.1 * bk.2 + bk.1 * th.2) * wh == two * ap * (th.2 * bk.2))
noncomputable def getQ (o : Option (List Q)) (i : Nat) : Option Q := o.bind fun l => l[i]?
noncomputable def stepsOk (n : Nat) (A : List (List Int)) (wh two : Int) (l : Line) : Bool := match getQ (solP n l.2.1 A) (if l.1 < l.2.1 then l.1 else l.1 - 1), getQ (solP n l.1 A) (if l.2.1 < l.1 then l.2.1 else l.2.1 - 1) with
  | some th, some bk => stepOk wh two (apf n A l) th bk
  | _, _ => false
noncomputable def eq3 (l m : List Int) : Bool := match l, m with
  | [a, b, c], [d, e, f] => a == d && b == e && c == f
  | _, _ => false
theorem eq3_iff {l m : List Int} (h : eq3 l m = true) : l = m := by
  unfold eq3 at h; split at h
  · simp only [Bool.and_eq_true, beq_iff_eq] at h; rw [h.1.1, h.1.2, h.2]
  · cases h
noncomputable def sgn (n : Nat) : Int := 1 - 2 * ((n : Int).fmod 2)
noncomputable def charOk (n : Nat) (U A : List (List Int)) (wh : Int) (ls : List Line) : Bool := match charI n U A n 1 U [1] with
  | some res => eq3 (res.reverse.take 3) [0, 0 - sgn n * n * wh, sgn n * (ls.map (apf n A)).sum] && Nat.ble res.length 10
  | none => false
noncomputable def knotsOk (n : Nat) (A : List (List Int)) (wh : Int) : Bool := (List.range' 0 n).all fun k => eqO (detP (woP n [k] A)) wh
noncomputable def w3All (ls : List Line) : Bool := ls.all fun l => Nat.ble l.2.2.natAbs 3
noncomputable def totOk (n : Nat) (ls : List Line) (A : List (List Int)) (wh : Int) : Bool := (wap ls 0 (ls.map (apf n A))).sum == ((n : Int) - 1) * wh
theorem pfAll_get {ls ways n A wh T} : ∀ {sub : List Line} {t : Nat}, pfAll ls ways n A wh T t sub = true → ∀ i l, sub[i]? = some l → isSm (apO n A l) = true ∧ le6 (apf n A l) = true ∧ le6 (wt ls (t + i) * apf n A l) = true ∧
    wt ls (t + i) * apf n A l = ((ways.filter (hasI (t + i))).map (worthI ls)).sum ∧ pairOk T l.1 l.2.1 (apf n A l) wh = true
  | [], t, h, i, l, e => by simp at e
  | l' :: r, t, h, i, l, e => by
    simp only [pfAll, Bool.and_eq_true, beq_iff_eq] at h
    cases i with
    | zero => simp at e; subst e; exact ⟨h.1.1.1.1.1, h.1.1.1.1.2, h.1.1.1.2, h.1.1.2, h.1.2⟩
    | succ i =>
      have := pfAll_get h.2 i l (by simpa using e)
      rw [show t + 1 + i = t + (i + 1) by omega] at this
      exact this
theorem wap_mem {ls : List Line} {B : Nat} : ∀ (ap : List Int) (t : Nat), (∀ i a, ap[i]? = some a → (wt ls (t + i) * a).natAbs ≤ B) → ∀ x ∈ wap ls t ap, x.natAbs ≤ B
  | [], t, h, x, hx => nomatch hx
  | a :: ap, t, h, x, hx => by
    rcases List.mem_cons.mp hx with rfl | hx
    · exact h 0 a rfl
    · exact wap_mem ap (t + 1) (fun i a e => by have := h (i + 1) a (by simpa using e); rwa [show t + (i + 1) = t + 1 + i by omega] at this) x hx
theorem wt3 {ls : List Line} (h : w3All ls = true) (i : Nat) : (wt ls i).natAbs ≤ 3 := by
  unfold wt
  cases q : ls[i]? with
  | none => simp
  | some l =>
    have := List.all_eq_true.mp h l (List.mem_of_getElem? q)
    exact Nat.le_of_ble_eq_true this
theorem facts_mk {n m spot : Nat} {ls : List Line} {ways : List (List Nat)} {A U : List (List Int)} {T : List (List Q)} {L : List D} {k : Int} {l0 : Line} {mo : Int} {th bk : Q} {wh : Int} (hL : IntsL L) (hn : n = 3 ∨ n = 4) (hm : m + 1 = n)
    (hls : ls.length ≤ 6) (hways : (∀ ix ∈ ways, ix.length ≤ 3 ∧ ∀ i ∈ ix, i < ls.length) ∧ ways.length ≤ 16) (hidx : ∀ l ∈ ls, 1 ≤ l.2.1 ∧ l.2.1 ≤ m ∧ l.1 ≤ m)
    (E1 : law_matrixF [nD n, .lst (linesD ls)] (pool L k) = some (imatD A, pool L k)) (E2 : law_waysF [nD n, .lst (linesD ls)] (pool L k) = some (waysD ways, pool L k))
    (E4 : ∀ l ∈ ls, law_withoutF [imatD A, pairD l] (pool L k) = some (imatD (woP n [l.1, l.2.1] A), pool L k)) (E5 : ∀ j, j < n → law_withoutF [imatD A, .lst [nD j]] (pool L k) = some (imatD (woP n [j] A), pool L k))
    (E6 : ∃ M, from_wholeF [imatD (woP n [0] A)] (pool L k) = some (M, pool L k) ∧ inverseF [M] (pool L k) = some (toldD T, pool L k)) (hT : SqT m T)
    (E8 : law_matrixF [nD n, .lst (linesD ls ++ [.tup [nD l0.1, nD l0.2.1, .int mo]])] (pool L k) = some (imatD (addL n A l0.1 l0.2.1 mo), pool L k)) (E8' : law_withoutF [imatD (addL n A l0.1 l0.2.1 mo), .lst [nD 0]] (pool L k) = some (imatD (woP n [0] (addL n A l0.1 l0.2.1 mo)), pool L k))
    (E9 : law_stepsF [imatD A, nD l0.1, nD l0.2.1] (pool L k) = some (qD th, pool L k)) (E9' : law_stepsF [imatD A, nD l0.2.1, nD l0.1] (pool L k) = some (qD bk, pool L k))
    (E10 : from_wholeF [imatD A] (pool L k) = some (matO A, pool L k)) (hU : ∀ τ, unit_matrixF [nD n] τ = some (matO U, τ)) (sU : Sq n U) (vU : ∀ r ∈ U, ∀ x ∈ r, x = 0 ∨ x = 1) (mU : midM U = true) (hA : Sq n A) (mA : midM A = true)
    (h0 : ls[spot]? = some l0) (hmo : mo ∈ ([1, 2, 3] : List Int)) (hwh : (ways.map (worthI ls)).sum = wh) (C3 : w3All ls = true)
    (Cp : pfAll ls ways n A wh T 0 ls = true) (Ck : knotsOk n A wh = true) (Ct : totOk n ls A wh = true) (Cw : widAll n A wh ls = true) (Cs : stepOk wh (2 * (ls.map fun l => l.2.2).sum) (apf n A l0) th bk = true) (Cc : charOk n U A wh ls = true) (C2 : small (2 * (ls.map fun l => l.2.2).sum) = true) :
    Facts (pool L k) n m ls ways (apf n A) wh T (imatD A) spot l0 mo th bk := by
  have P := pfAll_get Cp
  have hl0 : l0 ∈ ls := List.mem_of_getElem? h0
  have Pm : ∀ l ∈ ls, apO n A l = some (apf n A l) ∧ (apf n A l).natAbs ≤ 1000000 := fun l hl => by
    obtain ⟨i, hi⟩ := List.mem_iff_getElem?.mp hl
    have := P i l hi
    exact ⟨apf_some this.1, le6_iff this.2.1⟩
  have hsm : small mo = true := by
    simp only [List.mem_cons, List.not_mem_nil, or_false] at hmo
    rcases hmo with rfl | rfl | rfl <;> rfl
  simp only [stepOk, Bool.and_eq_true, beq_iff_eq] at Cs
  obtain ⟨⟨⟨⟨⟨k1, k2⟩, k3⟩, k4⟩, k5⟩, k6⟩ := Cs
  refine {
    hn := hn, hm := hm, lw := ⟨hls, wt3 C3, hways.1, hways.2⟩, f1 := E1, f2 := E2, f3 := hwh
    f4 := fun l hl => ⟨_, E4 l hl, det_eq hL (Pm l hl).1⟩
    f5 := fun j hj => ⟨_, E5 j hj, det_eq hL (eqO_iff (List.all_eq_true.mp Ck j (List.mem_range'_1.mpr ⟨by omega, by omega⟩)))⟩
    f6 := let ⟨M, a, b⟩ := E6; ⟨_, M, E5 0 (by omega), a, b⟩
    hT := hT
    pf := ⟨fun t l hl => ?_⟩
    wb := ?_, ab := ?_, wsum := by simpa [totOk] using Ct, h0 := h0
    f8 := ⟨_, _, E8, E8', det_eq hL (eqO_iff (List.all_eq_true.mp (List.all_eq_true.mp Cw l0 hl0) mo hmo))⟩
    smo := hsm, f9 := E9, f9' := E9', s1 := k1, s2 := k2, s3 := k3, s4 := k4, s5 := C2, s6 := k5, st := k6, f10 := ?_ }
  · have := P t l hl
    rw [Nat.zero_add] at this
    obtain ⟨a, b, c⟩ := hidx l (List.mem_of_getElem? hl)
    exact ⟨a, b, c, apf n A l, by rw [List.getElem?_map, hl]; rfl, this.2.2.2.1, this.2.2.2.2⟩
  · refine wap_mem _ 0 fun i a e => ?_
    rw [List.getElem?_map] at e
    cases q : ls[i]? with
    | none => rw [q] at e; cases e
    | some l => rw [q] at e; cases e; exact le6_iff (P i l q).2.2.1
  · intro x hx
    obtain ⟨l, hl, rfl⟩ := List.mem_map.mp hx
    exact (Pm l hl).2
  · unfold charOk at Cc
    split at Cc
    · rename_i res hr
      simp only [Bool.and_eq_true] at Cc
      exact ⟨matO A, res.reverse, E10, charpoly_eq (inv_pool hL) hn hU sU vU mU hA mA hr, by rw [List.length_reverse]; have := Nat.le_of_ble_eq_true Cc.2; omega, eq3_iff Cc.1⟩
    · cases Cc
end Mine
-- H23
set_option maxHeartbeats 4000000
namespace Mine
open PySem PySem.W PyProof.Rows
noncomputable def U3 : List (List Int) := [[1, 0, 0], [0, 1, 0], [0, 0, 1]]
noncomputable def U4 : List (List Int) := [[1, 0, 0, 0], [0, 1, 0, 0], [0, 0, 1, 0], [0, 0, 0, 1]]
noncomputable def sqT (m : Nat) (T : List (List Q)) : Bool := Nat.beq T.length m && T.all fun r => Nat.beq r.length m
theorem SqT.of {m : Nat} {T : List (List Q)} (h : sqT m T = true) : SqT m T := by
  simp only [sqT, Bool.and_eq_true, List.all_eq_true] at h
  exact ⟨Nat.eq_of_beq_eq_true h.1, fun r hr => Nat.eq_of_beq_eq_true (h.2 r hr)⟩
noncomputable def augU (m : Nat) (A U : List (List Int)) : List (List Int) := List.zipWith (· ++ ·) A U
/-- all checks at one choice of the weights -/
noncomputable def chk (n m : Nat) (ls : List Line) (ways : List (List Nat)) (A Um Un : List (List Int)) : Bool :=
  (fun (wh two : Int) => midM A && w3All ls && small two && knotsOk n A wh && totOk n ls A wh && widAll n A wh ls && (ls.all fun l => stepsOk n A wh two l) && charOk n Un A wh ls &&
    smallW (m + m) (augU m (woP n [0] A) Um) && (match echI m 0 ((augU m (woP n [0] A) Um).map row1) with
    | none => false
    | some rows => sqT m (toldOf m rows) && pfAll ls ways n A wh (toldOf m rows) 0 ls)) ((ways.map (worthI ls)).sum) (2 * (ls.map fun l => l.2.2).sum)
noncomputable def chk3 (a b c : Int) : Bool := chk 3 2 (ls3 a b c) ways3 (M3 a b c) [[1, 0], [0, 1]] U3
noncomputable def chk4 (a b c d e f : Int) : Bool := chk 4 3 (ls4 a b c d e f) ways4 (M4 a b c d e f) U3 U4
section
variable {L : List D} {k : Int} (hL : IntsL L) {a b c d e f : Int}
include hL
theorem wid3 {mo : Int} : ∀ l ∈ [(0, 1), (0, 2), (1, 2)], law_matrixF [nD 3, .lst (linesD (ls3 a b c) ++ [.tup [nD l.1, nD l.2, .int mo]])] (pool L k) = some (imatD (addL 3 (M3 a b c) l.1 l.2 mo), pool L k) := by
  simp only [List.forall_mem_cons]
  exact ⟨fn_runX hL rfl (by kernel_rfl), fn_runX hL rfl (by kernel_rfl), fn_runX hL rfl (by kernel_rfl), fun _ h => nomatch h⟩
theorem wid4 {mo : Int} : ∀ l ∈ [(0, 1), (0, 2), (0, 3), (1, 2), (1, 3), (2, 3)], law_matrixF [nD 4, .lst (linesD (ls4 a b c d e f) ++ [.tup [nD l.1, nD l.2, .int mo]])] (pool L k) = some (imatD (addL 4 (M4 a b c d e f) l.1 l.2 mo), pool L k) := by
  simp only [List.forall_mem_cons]
  exact ⟨fn_runX hL rfl (by kernel_rfl), fn_runX hL rfl (by kernel_rfl), fn_runX hL rfl (by kernel_rfl), fn_runX hL rfl (by kernel_rfl), fn_runX hL rfl (by kernel_rfl), fn_runX hL rfl (by kernel_rfl), fun _ h => nomatch h⟩
end
end Mine
-- H24
set_option maxHeartbeats 4000000
namespace Mine
open PySem PySem.W PyProof.Rows
noncomputable def restG (x0 x1 : Option D) (n : Nat) (ls : List Line) (spot : Nat) (mo : Int) : Gam := [x0, x1, some (nD n), none, none, some (.lst (ls.map pairD)), some (.lst (linesD ls)), some (nD spot), some (.int mo), none, none, none, none, none, none, none, none, none, none, none, none, none, none, none, none, none, none]
theorem getQ_some {o : Option (List Q)} {i : Nat} {q : Q} (h : getQ o i = some q) : ∃ qs, o = some qs ∧ qs[i]? = some q := by
  unfold getQ at h
  rw [Option.bind_eq_some_iff] at h
  exact h
noncomputable def pr4 : List (Nat × Nat) := [(0, 1), (0, 2), (0, 3), (1, 2), (1, 3), (2, 3)]
noncomputable def pr3 : List (Nat × Nat) := [(0, 1), (0, 2), (1, 2)]
theorem ls4_mem {a b c d e f : Int} {l : Line} (h : l ∈ ls4 a b c d e f) : (l.1, l.2.1) ∈ pr4 := List.mem_map_of_mem (f := fun l : Line => (l.1, l.2.1)) h
theorem ls3_mem {a b c : Int} {l : Line} (h : l ∈ ls3 a b c) : (l.1, l.2.1) ∈ pr3 := List.mem_map_of_mem (f := fun l : Line => (l.1, l.2.1)) h
theorem pr4_all : ∀ p ∈ pr4, (1 ≤ p.2 ∧ p.2 ≤ 3 ∧ p.1 ≤ 3) ∧ (p.2 ∈ [0, 1, 2, 3] ∧ p.1 ∈ [0, 1, 2, 3]) ∧ p.1 ≠ p.2 ∧ p.2 ≠ p.1 ∧ p.1 ≤ 100 ∧ p.2 ≤ 100 := by decide
theorem pr3_all : ∀ p ∈ pr3, (1 ≤ p.2 ∧ p.2 ≤ 2 ∧ p.1 ≤ 2) ∧ (p.2 ∈ [0, 1, 2] ∧ p.1 ∈ [0, 1, 2]) ∧ p.1 ≠ p.2 ∧ p.2 ≠ p.1 ∧ p.1 ≤ 100 ∧ p.2 ≤ 100 := by decide
theorem ways4_ok : (∀ ix ∈ ways4, ix.length ≤ 3 ∧ ∀ i ∈ ix, i < 6) ∧ ways4.length ≤ 16 := by decide
theorem ways3_ok : (∀ ix ∈ ways3, ix.length ≤ 3 ∧ ∀ i ∈ ix, i < 3) ∧ ways3.length ≤ 16 := by decide
theorem mem4 : ∀ j, j < 4 → j ∈ [0, 1, 2, 3] := by decide
theorem mem3 : ∀ j, j < 3 → j ∈ [0, 1, 2] := by decide
theorem U4_ok : ∀ r ∈ U4, ∀ x ∈ r, x = 0 ∨ x = 1 := by decide
theorem U3_ok : ∀ r ∈ U3, ∀ x ∈ r, x = 0 ∨ x = 1 := by decide
theorem sqU4 : Sq 4 U4 := ⟨rfl, by decide⟩
theorem sqU3 : Sq 3 U3 := ⟨rfl, by decide⟩
theorem all_len4 {n : Nat} {a b c d : List Int} (h1 : a.length = n) (h2 : b.length = n) (h3 : c.length = n) (h4 : d.length = n) : ∀ r ∈ [a, b, c, d], r.length = n := by
  intro r hr
  simp only [List.mem_cons, List.not_mem_nil, or_false] at hr
  rcases hr with rfl | rfl | rfl | rfl <;> assumption
theorem all_len3 {n : Nat} {a b c : List Int} (h1 : a.length = n) (h2 : b.length = n) (h3 : c.length = n) : ∀ r ∈ [a, b, c], r.length = n := by
  intro r hr
  simp only [List.mem_cons, List.not_mem_nil, or_false] at hr
  rcases hr with rfl | rfl | rfl <;> assumption
theorem sqM4 {a b c d e f : Int} : Sq 4 (M4 a b c d e f) := ⟨rfl, all_len4 rfl rfl rfl rfl⟩
theorem sqM3 {a b c : Int} : Sq 3 (M3 a b c) := ⟨rfl, all_len3 rfl rfl rfl⟩
section
variable {L : List D} {k : Int} (hL : IntsL L)
include hL
theorem woM4_pair {a b c d e f : Int} : ∀ p ∈ [(0, 1), (0, 2), (0, 3), (1, 2), (1, 3), (2, 3)], law_withoutF [imatD (M4 a b c d e f), .tup [nD p.1, nD p.2]] (pool L k) = some (imatD (woP 4 [p.1, p.2] (M4 a b c d e f)), pool L k) :=
  wo4_pair hL (a00 := 0 + a + b + c) (a01 := 0 - a) (a02 := 0 - b) (a03 := 0 - c) (a10 := 0 - a) (a11 := 0 + a + d + e) (a12 := 0 - d) (a13 := 0 - e) (a20 := 0 - b) (a21 := 0 - d) (a22 := 0 + b + d + f) (a23 := 0 - f) (a30 := 0 - c) (a31 := 0 - e) (a32 := 0 - f) (a33 := 0 + c + e + f)
theorem woM4_one {a b c d e f : Int} : ∀ p ∈ [0, 1, 2, 3], law_withoutF [imatD (M4 a b c d e f), .lst [nD p]] (pool L k) = some (imatD (woP 4 [p] (M4 a b c d e f)), pool L k) :=
  wo4_one hL (a00 := 0 + a + b + c) (a01 := 0 - a) (a02 := 0 - b) (a03 := 0 - c) (a10 := 0 - a) (a11 := 0 + a + d + e) (a12 := 0 - d) (a13 := 0 - e) (a20 := 0 - b) (a21 := 0 - d) (a22 := 0 + b + d + f) (a23 := 0 - f) (a30 := 0 - c) (a31 := 0 - e) (a32 := 0 - f) (a33 := 0 + c + e + f)
theorem fwM4 {a b c d e f : Int} : from_wholeF [imatD (M4 a b c d e f)] (pool L k) = some (matO (M4 a b c d e f), pool L k) := fw4 hL (a00 := 0 + a + b + c) (a01 := 0 - a) (a02 := 0 - b) (a03 := 0 - c) (a10 := 0 - a) (a11 := 0 + a + d + e) (a12 := 0 - d) (a13 := 0 - e) (a20 := 0 - b) (a21 := 0 - d) (a22 := 0 + b + d + f) (a23 := 0 - f) (a30 := 0 - c) (a31 := 0 - e) (a32 := 0 - f) (a33 := 0 + c + e + f)
theorem stepsM4 {a b c d e f : Int} {s t : Nat} {qs : List Q} {q : Q} (he : t ∈ [0, 1, 2, 3]) (hse : s ≠ t) (hs : s ≤ 100) (h : solP 4 t (M4 a b c d e f) = some qs) (hq : qs[if s < t then s else s - 1]? = some q) :
    law_stepsF [imatD (M4 a b c d e f), nD s, nD t] (pool L k) = some (qD q, pool L k) := steps4 hL (a00 := 0 + a + b + c) (a01 := 0 - a) (a02 := 0 - b) (a03 := 0 - c) (a10 := 0 - a) (a11 := 0 + a + d + e) (a12 := 0 - d) (a13 := 0 - e) (a20 := 0 - b) (a21 := 0 - d) (a22 := 0 + b + d + f) (a23 := 0 - f) (a30 := 0 - c) (a31 := 0 - e) (a32 := 0 - f) (a33 := 0 + c + e + f) he hse hs h hq
theorem invM4 {a b c d e f : Int} {rows : List IRow} (hr : echI 3 0 ((augU 3 (woP 4 [0] (M4 a b c d e f)) U3).map row1) = some rows) (hs : smallW 6 (augU 3 (woP 4 [0] (M4 a b c d e f)) U3) = true) :
    ∃ M, from_wholeF [imatD (woP 4 [0] (M4 a b c d e f))] (pool L k) = some (M, pool L k) ∧ inverseF [M] (pool L k) = some (toldD (toldOf 3 rows), pool L k) :=
  ⟨matO [[0 + a + d + e, 0 - d, 0 - e], [0 - d, 0 + b + d + f, 0 - f], [0 - e, 0 - f, 0 + c + e + f]], fw3 hL (a00 := 0 + a + d + e) (a01 := 0 - d) (a02 := 0 - e) (a10 := 0 - d) (a11 := 0 + b + d + f) (a12 := 0 - f) (a20 := 0 - e) (a21 := 0 - f) (a22 := 0 + c + e + f),
    inv3_eq hL (a := 0 + a + d + e) (b := 0 - d) (c := 0 - e) (d := 0 - d) (e := 0 + b + d + f) (f := 0 - f) (g := 0 - e) (h := 0 - f) (i := 0 + c + e + f) hr hs⟩
theorem widM4 {a b c d e f mo : Int} {s t : Nat} : law_withoutF [imatD (addL 4 (M4 a b c d e f) s t mo), .lst [nD 0]] (pool L k) = some (imatD (woP 4 [0] (addL 4 (M4 a b c d e f) s t mo)), pool L k) :=
  wo4_one hL (a00 := _) (a01 := _) (a02 := _) (a03 := _) 0 (by decide)
theorem run4 {a b c d e f : Int} {spot : Nat} {mo : Int} (h : chk4 a b c d e f = true) (hs : spot < 6) (hmo : mo ∈ ([1, 2, 3] : List Int)) (x0 x1 : Option D) :
    ∃ Γ', c_rest (restG x0 x1 4 (ls4 a b c d e f) spot mo) (pool L k) = some (.ret (.bool true), Γ', pool L k) := by
  unfold chk4 chk at h
  simp only [Bool.and_eq_true] at h
  obtain ⟨⟨⟨⟨⟨⟨⟨⟨⟨hA, C3⟩, C2⟩, Ck⟩, Ct⟩, Cw⟩, Cs⟩, Cc⟩, Ci⟩, Ce⟩ := h
  split at Ce
  · cases Ce
  rename_i rows hr
  simp only [Bool.and_eq_true] at Ce
  obtain ⟨l0, h0⟩ : ∃ l0, (ls4 a b c d e f)[spot]? = some l0 := ⟨_, List.getElem?_eq_getElem (by simpa [ls4] using hs)⟩
  have hl0 := List.mem_of_getElem? h0
  have hst := List.all_eq_true.mp Cs l0 hl0
  unfold stepsOk at hst
  split at hst
  case h_2 => cases hst
  rename_i th bk q1 q2
  obtain ⟨qs1, s1, g1⟩ := getQ_some q1
  obtain ⟨qs2, s2, g2⟩ := getQ_some q2
  have hmem := pr4_all _ (ls4_mem hl0)
  exact rest_run (m := 3) (ways := ways4) (apf := apf 4 (M4 a b c d e f)) (A := imatD (M4 a b c d e f)) (T := toldOf 3 rows) (l0 := l0) (th := th) (bk := bk) (facts_mk (ls := ls4 a b c d e f) (U := U4) hL (.inr rfl) rfl (Nat.le_refl 6) ways4_ok (fun l hl => (pr4_all _ (ls4_mem hl)).1) (mat4_eq hL) (ways4_eq hL)
    (fun l hl => woM4_pair hL (l.1, l.2.1) (ls4_mem hl)) (fun j hj => woM4_one hL j (mem4 j hj)) (invM4 hL hr Ci) (SqT.of Ce.1) (wid4 hL (l0.1, l0.2.1) (ls4_mem hl0)) (widM4 hL) (stepsM4 hL hmem.2.1.1 hmem.2.2.1 hmem.2.2.2.2.1 s1 g1) (stepsM4 hL hmem.2.1.2 hmem.2.2.2.1 hmem.2.2.2.2.2 s2 g2)
    (fwM4 hL) unit4 sqU4 U4_ok rfl sqM4 hA h0 hmo rfl C3 Ce.2 Ck Ct Cw hst Cc C2) x0 x1
end
end Mine
-- H25
set_option maxHeartbeats 4000000
namespace Mine
open PySem PySem.W PyProof.Rows
section
variable {L : List D} {k : Int} (hL : IntsL L)
include hL
theorem woM3_pair {a b c : Int} : ∀ p ∈ [(0, 1), (0, 2), (1, 2)], law_withoutF [imatD (M3 a b c), .tup [nD p.1, nD p.2]] (pool L k) = some (imatD (woP 3 [p.1, p.2] (M3 a b c)), pool L k) :=
  wo3_pair hL (a00 := 0 + a + b) (a01 := 0 - a) (a02 := 0 - b) (a10 := 0 - a) (a11 := 0 + a + c) (a12 := 0 - c) (a20 := 0 - b) (a21 := 0 - c) (a22 := 0 + b + c)
theorem woM3_one {a b c : Int} : ∀ p ∈ [0, 1, 2], law_withoutF [imatD (M3 a b c), .lst [nD p]] (pool L k) = some (imatD (woP 3 [p] (M3 a b c)), pool L k) :=
  wo3_one hL (a00 := 0 + a + b) (a01 := 0 - a) (a02 := 0 - b) (a10 := 0 - a) (a11 := 0 + a + c) (a12 := 0 - c) (a20 := 0 - b) (a21 := 0 - c) (a22 := 0 + b + c)
theorem fwM3 {a b c : Int} : from_wholeF [imatD (M3 a b c)] (pool L k) = some (matO (M3 a b c), pool L k) :=
  fw3 hL (a00 := 0 + a + b) (a01 := 0 - a) (a02 := 0 - b) (a10 := 0 - a) (a11 := 0 + a + c) (a12 := 0 - c) (a20 := 0 - b) (a21 := 0 - c) (a22 := 0 + b + c)
theorem stepsM3 {a b c : Int} {s t : Nat} {qs : List Q} {q : Q} (he : t ∈ [0, 1, 2]) (hse : s ≠ t) (hs : s ≤ 100) (h : solP 3 t (M3 a b c) = some qs) (hq : qs[if s < t then s else s - 1]? = some q) :
    law_stepsF [imatD (M3 a b c), nD s, nD t] (pool L k) = some (qD q, pool L k) :=
  steps3 hL (a00 := 0 + a + b) (a01 := 0 - a) (a02 := 0 - b) (a10 := 0 - a) (a11 := 0 + a + c) (a12 := 0 - c) (a20 := 0 - b) (a21 := 0 - c) (a22 := 0 + b + c) he hse hs h hq
theorem invM3 {a b c : Int} {rows : List IRow} (hr : echI 2 0 ((augU 2 (woP 3 [0] (M3 a b c)) [[1, 0], [0, 1]]).map row1) = some rows) (hs : smallW 4 (augU 2 (woP 3 [0] (M3 a b c)) [[1, 0], [0, 1]]) = true) :
    ∃ M, from_wholeF [imatD (woP 3 [0] (M3 a b c))] (pool L k) = some (M, pool L k) ∧ inverseF [M] (pool L k) = some (toldD (toldOf 2 rows), pool L k) :=
  ⟨matO [[0 + a + c, 0 - c], [0 - c, 0 + b + c]], fw2 hL (a00 := 0 + a + c) (a01 := 0 - c) (a10 := 0 - c) (a11 := 0 + b + c), inv2_eq hL (a := 0 + a + c) (b := 0 - c) (c := 0 - c) (d := 0 + b + c) hr hs⟩
theorem widM3 {a b c mo : Int} {s t : Nat} : law_withoutF [imatD (addL 3 (M3 a b c) s t mo), .lst [nD 0]] (pool L k) = some (imatD (woP 3 [0] (addL 3 (M3 a b c) s t mo)), pool L k) :=
  wo3_one hL (a00 := _) (a01 := _) (a02 := _) 0 (by decide)
theorem run3 {a b c : Int} {spot : Nat} {mo : Int} (h : chk3 a b c = true) (hs : spot < 3) (hmo : mo ∈ ([1, 2, 3] : List Int)) (x0 x1 : Option D) :
    ∃ Γ', c_rest (restG x0 x1 3 (ls3 a b c) spot mo) (pool L k) = some (.ret (.bool true), Γ', pool L k) := by
  unfold chk3 chk at h
  simp only [Bool.and_eq_true] at h
  obtain ⟨⟨⟨⟨⟨⟨⟨⟨⟨hA, C3⟩, C2⟩, Ck⟩, Ct⟩, Cw⟩, Cs⟩, Cc⟩, Ci⟩, Ce⟩ := h
  split at Ce
  · cases Ce
  rename_i rows hr
  simp only [Bool.and_eq_true] at Ce
  obtain ⟨l0, h0⟩ : ∃ l0, (ls3 a b c)[spot]? = some l0 := ⟨_, List.getElem?_eq_getElem (by simpa [ls3] using hs)⟩
  have hl0 := List.mem_of_getElem? h0
  have hst := List.all_eq_true.mp Cs l0 hl0
  unfold stepsOk at hst
  split at hst
  case h_2 => cases hst
  rename_i th bk q1 q2
  obtain ⟨qs1, s1, g1⟩ := getQ_some q1
  obtain ⟨qs2, s2, g2⟩ := getQ_some q2
  have hmem := pr3_all _ (ls3_mem hl0)
  exact rest_run (m := 2) (ways := ways3) (apf := apf 3 (M3 a b c)) (A := imatD (M3 a b c)) (T := toldOf 2 rows) (l0 := l0) (th := th) (bk := bk) (facts_mk (ls := ls3 a b c) (U := U3) hL (.inl rfl) rfl (show 3 ≤ 6 by omega) ways3_ok (fun l hl => (pr3_all _ (ls3_mem hl)).1) (mat3_eq hL) (ways3_eq hL)
    (fun l hl => woM3_pair hL (l.1, l.2.1) (ls3_mem hl)) (fun j hj => woM3_one hL j (mem3 j hj)) (invM3 hL hr Ci) (SqT.of Ce.1) (wid3 hL (l0.1, l0.2.1) (ls3_mem hl0)) (widM3 hL) (stepsM3 hL hmem.2.1.1 hmem.2.2.1 hmem.2.2.2.2.1 s1 g1) (stepsM3 hL hmem.2.1.2 hmem.2.2.2.1 hmem.2.2.2.2.2 s2 g2)
    (fwM3 hL) unit3 sqU3 U3_ok rfl sqM3 hA h0 hmo rfl C3 Ce.2 Ck Ct Cw hst Cc C2) x0 x1
end
end Mine
-- H26
set_option maxHeartbeats 4000000
namespace Mine
open PySem PySem.W PyProof.Rows
noncomputable def menu (t : Nat) : Int := (([0, 1, 2, 0, 1, 2] : List Int)[t % 6]?).getD 0
noncomputable def drawP (ns : List Int) (t many : Nat) : Int := match ns[t]? with
  | some x => (if x < 0 then -x else x).fmod many
  | none => (menu t).fmod many
theorem draw_bound {ns : List Int} {t many : Nat} (hm : 0 < many) : 0 ≤ drawP ns t many ∧ drawP ns t many < many := by
  unfold drawP
  split <;> exact ⟨Int.fmod_nonneg_of_pos _ (by omega), Int.fmod_lt_of_pos _ (by omega)⟩
theorem draw_eq {ns : List Int} {t many : Nat} (hn : ns.length ≤ 100) (ht : t ≤ 1000) (hm : 0 < many) : law_drawF [.ref 0, nD many] (pool (ns.map D.int) t) = some (.int (drawP ns t many), pool (ns.map D.int) ((t + 1 : Nat) : Int)) := by
  have s1 : sAssign (c2 idxD (cVar 0) (cK (.int 1))) (tVar 2) [some (.ref 0), some (nD many), none] (pool (ns.map D.int) t) = some (.next, [some (.ref 0), some (nD many), some (nD t)], pool (ns.map D.int) t) := rfl
  have s2 : sAssign (c2 addD (cVar 2) (cK (.int 1))) (tSub (cVar 0) (cK (.int 1))) [some (.ref 0), some (nD many), some (nD t)] (pool (ns.map D.int) t) = some (.next, [some (.ref 0), some (nD many), some (nD t)], pool (ns.map D.int) ((t + 1 : Nat) : Int)) := rfl
  have hl : c2 ltD (cVar 2) (c1 lenD (c2 idxD (cVar 0) (cK (.int 0)))) [some (.ref 0), some (nD many), some (nD t)] (pool (ns.map D.int) ((t + 1 : Nat) : Int)) = some (.bool (decide (t < ns.length)), pool (ns.map D.int) ((t + 1 : Nat) : Int)) := by
    refine c2_run (p := nD t) (q := nD ns.length) rfl (c1_run (p := .lst (ns.map D.int)) rfl ?_) ?_
    · have := len_lst (σ := pool (ns.map D.int) ((t + 1 : Nat) : Int)) (l := ns.map D.int) (by rw [List.length_map]; omega)
      rwa [List.length_map] at this
    · show some (D.bool (decide ((t : Int) < (ns.length : Int))), _) = _
      congr 3
      rw [decide_eq_decide]; omega
  have hmod : ∀ x : Int, modD (.int x) (nD many) (pool (ns.map D.int) ((t + 1 : Nat) : Int)) = some (.int (x.fmod many), pool (ns.map D.int) ((t + 1 : Nat) : Int)) := fun x => by
    show (if (many : Int) = 0 then none else some (D.int (x.fmod many), _)) = _
    rw [if_neg (by omega)]
  have fin : finish (pool (ns.map D.int) t).length (.int (drawP ns t many)) (pool (ns.map D.int) ((t + 1 : Nat) : Int)) = some (.int (drawP ns t many), pool (ns.map D.int) ((t + 1 : Nat) : Int)) := rfl
  refine mkFn_run (Γ' := [some (.ref 0), some (nD many), some (nD t)]) rfl ?_ fin
  refine (bCons_next s1).trans ((bCons_next s2).trans ?_)
  unfold drawP
  by_cases h : t < ns.length
  · rw [List.getElem?_eq_getElem h]
    have hi : c2 idxD (c2 idxD (cVar 0) (cK (.int 0))) (cVar 2) [some (.ref 0), some (nD many), some (nD t)] (pool (ns.map D.int) ((t + 1 : Nat) : Int)) = some (.int ns[t], pool (ns.map D.int) ((t + 1 : Nat) : Int)) :=
      c2_run (p := .lst (ns.map D.int)) rfl rfl (idx_lst (by rw [List.getElem?_map, List.getElem?_eq_getElem h]; rfl) (by omega))
    rw [bCons, if_run (qv_run hl), decide_eq_true h]
    simp only [if_true]
    rw [ret_run (c2_run (p := .int (if ns[t] < 0 then -ns[t] else ns[t])) (c1_run hi rfl) rfl (hmod _))]
    rfl
  · rw [List.getElem?_eq_none (by omega)]
    have hi : c2 modD (cVar 2) (cK (.int 6)) [some (.ref 0), some (nD many), some (nD t)] (pool (ns.map D.int) ((t + 1 : Nat) : Int)) = some (nD (t % 6), pool (ns.map D.int) ((t + 1 : Nat) : Int)) := by
      refine c2_run (p := nD t) rfl rfl ?_
      show (if (6 : Int) = 0 then none else some (D.int ((t : Int).fmod 6), _)) = _
      rw [if_neg (by decide), show ((t : Int).fmod 6) = ((t % 6 : Nat) : Int) from Int.ofNat_fmod t 6 |>.symm]; rfl
    rw [bCons, if_run (qv_run hl), decide_eq_false h]
    simp only [Bool.false_eq_true, if_false]
    have h6 : t % 6 < 6 := Nat.mod_lt _ (by omega)
    have hmn : (([0, 1, 2, 0, 1, 2] : List Int).map D.int)[t % 6]? = some (.int (menu t)) := by
      unfold menu
      rw [List.getElem?_map]
      have : (([0, 1, 2, 0, 1, 2] : List Int))[t % 6]? = some ((([0, 1, 2, 0, 1, 2] : List Int))[t % 6]'h6) := List.getElem?_eq_getElem h6
      rw [this]; rfl
    have hj : idxD (.tup [.int 0, .int 1, .int 2, .int 0, .int 1, .int 2]) (nD (t % 6)) (pool (ns.map D.int) ((t + 1 : Nat) : Int)) = some (.int (menu t), pool (ns.map D.int) ((t + 1 : Nat) : Int)) := idxL_eq hmn (by omega)
    show bCons (sRet _) bNil _ _ = _
    exact ret_run (c2_run (p := .int (menu t)) (c2_run rfl hi hj) rfl (hmod _))
end Mine
-- H27
set_option maxHeartbeats 4000000
namespace Mine
open PySem PySem.W PyProof.Rows
theorem c2_runS {f : Op2} {x y : Cmd} {Γ : Gam} {p q d : D} {σ σ1 σ2 σ' : Sto} (hx : x Γ σ = some (p, σ1)) (hy : y Γ σ1 = some (q, σ2)) (h : f p q σ2 = some (d, σ')) : c2 f x y Γ σ = some (d, σ') := by
  unfold c2; rw [hx]; simp only [Option.bind_some]; rw [hy]; exact h
theorem cons_runS {x : Cmd} {y : LCmd} {Γ : Gam} {σ σ1 σ2 : Sto} {d : D} {ds : List D} (hx : x Γ σ = some (d, σ1)) (hy : y Γ σ1 = some (ds, σ2)) : cCons x y Γ σ = some (d :: ds, σ2) := by
  unfold cCons; rw [hx]; simp only [Option.bind_some]; rw [hy]; rfl
theorem comp_runS {mp : List (Option Nat)} {it : ICmd} {t : TCmd} {f : FCmd} {Γ Γ₀ Γ' : Gam} {σ σ' : Sto} {items res : List D} (h1 : it Γ σ = some (items, σ)) (h2 : gamOf mp Γ = Γ₀) (h3 : compLL t f items Γ₀ σ = some (res, Γ', σ')) (h4 : res.length ≤ 10000) :
    cComp mp it t f Γ σ = some (.lst res, σ') := by
  unfold cComp; rw [h1]; simp only [Option.bind_some]; rw [h2, h3]; simp only [Option.bind_some]; rw [if_pos (okN_of h4)]
noncomputable def lnsP (ns : List Int) : Nat → List (Nat × Nat) → List Line
  | _, [] => []
  | t, p :: r => (p.1, p.2, drawP ns t 3 + (if p.2 = p.1 + 1 then 1 else 0)) :: lnsP ns (t + 1) r
noncomputable def pD (p : Nat × Nat) : D := .tup [nD p.1, nD p.2]
noncomputable def lineE : Cmd := cTup (cCons (cVar 1) (cCons (cVar 2) (cCons (c2 addD (cCall law_drawF (cCons (cVar 3) (cCons (cK (.int 3)) cNil))) (cIf (qVal (c2 eqD (cVar 2) (c2 addD (cVar 1) (cK (.int 1))))) (cK (.int 1)) (cK (.int 0)))) cNil)))
section
variable {ns : List Int} (hn : ns.length ≤ 100)
include hn
theorem line_run {t i j : Nat} {e0 : Option D} (ht : t ≤ 1000) : lineE [e0, some (nD i), some (nD j), some (.ref 0)] (pool (ns.map D.int) t) = some (.tup [nD i, nD j, .int (drawP ns t 3 + (if j = i + 1 then 1 else 0))], pool (ns.map D.int) ((t + 1 : Nat) : Int)) := by
  have hd : cCall law_drawF (cCons (cVar 3) (cCons (cK (.int 3)) cNil)) [e0, some (nD i), some (nD j), some (.ref 0)] (pool (ns.map D.int) t) = some (.int (drawP ns t 3), pool (ns.map D.int) ((t + 1 : Nat) : Int)) :=
    call_run (ds := [.ref 0, nD 3]) rfl (draw_eq hn ht (by omega))
  have hq : qVal (c2 eqD (cVar 2) (c2 addD (cVar 1) (cK (.int 1)))) [e0, some (nD i), some (nD j), some (.ref 0)] (pool (ns.map D.int) ((t + 1 : Nat) : Int)) = some (decide (j = i + 1), pool (ns.map D.int) ((t + 1 : Nat) : Int)) := by
    refine qv_run (c2_run (p := nD j) (q := .int ((i : Int) + 1)) rfl (c2_run (p := nD i) rfl rfl rfl) ?_)
    show some (D.bool ((j : Int) == ((i : Int) + 1)), _) = _
    congr 3
    rw [Bool.eq_iff_iff, beq_iff_eq, decide_eq_true_iff]; omega
  have hif : cIf (qVal (c2 eqD (cVar 2) (c2 addD (cVar 1) (cK (.int 1))))) (cK (.int 1)) (cK (.int 0)) [e0, some (nD i), some (nD j), some (.ref 0)] (pool (ns.map D.int) ((t + 1 : Nat) : Int)) = some (.int (if j = i + 1 then 1 else 0), pool (ns.map D.int) ((t + 1 : Nat) : Int)) := by
    unfold cIf; rw [hq]
    by_cases h : j = i + 1
    · simp only [h, decide_true, Option.bind_some, if_true]; rfl
    · simp only [h, decide_false, Option.bind_some, Bool.false_eq_true, if_false]; rfl
  unfold lineE cTup
  rw [cons_runS (d := nD i) rfl (cons_runS (d := nD j) rfl (cons_runS (c2_runS hd hif rfl) rfl))]
  rfl
theorem lines_comp : ∀ (ps : List (Nat × Nat)) (t : Nat) (e0 e1 e2 : Option D), t + ps.length ≤ 1000 →
    ∃ Γ', compLL (tTup [tVar 1, tVar 2]) (fElt lineE) (ps.map pD) [e0, e1, e2, some (.ref 0)] (pool (ns.map D.int) t) = some (linesD (lnsP ns t ps), Γ', pool (ns.map D.int) ((t + ps.length : Nat) : Int))
  | [], t, e0, e1, e2, _ => ⟨_, rfl⟩
  | p :: ps, t, e0, e1, e2, h => by
    rw [List.length_cons] at h ⊢
    obtain ⟨Γ', ih⟩ := lines_comp ps (t + 1) e0 (some (nD p.1)) (some (nD p.2)) (by omega)
    refine ⟨Γ', ?_⟩
    rw [List.map_cons, compLL, show tTup [tVar 1, tVar 2] (pD p) [e0, e1, e2, some (.ref 0)] (pool (ns.map D.int) t) = some ([e0, some (nD p.1), some (nD p.2), some (.ref 0)], pool (ns.map D.int) t) from rfl]
    simp only [Option.bind_some]
    unfold fElt
    rw [line_run hn (by omega)]
    simp only [Option.map_some, Option.bind_some]
    unfold fElt at ih
    rw [ih, show t + 1 + ps.length = t + (ps.length + 1) by omega]; rfl
end
noncomputable def pairs3 : List (Nat × Nat) := [(0, 1), (0, 2), (1, 2)]
noncomputable def pairs4 : List (Nat × Nat) := [(0, 1), (0, 2), (0, 3), (1, 2), (1, 3), (2, 3)]
theorem comp_ints : ∀ (l : List Int) (e0 e1 : Option D) (σ : Sto), ∃ Γ', compLL (tVar 1) (fElt (c1 intD (cVar 1))) (l.map D.int) [e0, e1] σ = some (l.map D.int, Γ', σ)
  | [], e0, e1, σ => ⟨_, rfl⟩
  | x :: l, e0, e1, σ => by
    obtain ⟨Γ', ih⟩ := comp_ints l e0 (some (.int x)) σ
    refine ⟨Γ', ?_⟩
    rw [List.map_cons, compLL, show tVar 1 (.int x) [e0, e1] σ = some ([e0, some (.int x)], σ) from rfl]
    simp only [Option.bind_some]
    unfold fElt
    rw [show c1 intD (cVar 1) [e0, some (.int x)] σ = some (.int x, σ) from rfl]
    simp only [Option.map_some, Option.bind_some]
    unfold fElt at ih
    rw [ih]; rfl
theorem s0_run {ns : List Int} (hn : ns.length ≤ 63) (Γ : Gam) (h0 : Γ[0]? = some (some (.scr (ns.map D.int)))) : lawS0 Γ [] = some (.next, Γ.set 1 (some (.ref 0)), pool ((ns.take 10).map D.int) ((0 : Nat) : Int)) := by
  have hi : iLst (c2 uptoD (cVar 0) (cK (.int 10))) Γ [] = some ((ns.take 10).map D.int, []) := by
    unfold iLst
    have : c2 uptoD (cVar 0) (cK (.int 10)) Γ [] = some (.lst ((ns.take 10).map D.int), []) := by
      refine c2_run (p := .scr (ns.map D.int)) (q := .int 10) (by unfold cVar; rw [h0]) rfl ?_
      show (if decide (0 ≤ (10 : Int)) && okN (ns.map D.int) then some (D.lst ((ns.map D.int).take 10), []) else none) = _
      rw [okN_of (by rw [List.length_map]; omega), List.map_take]; rfl
    rw [this]; rfl
  obtain ⟨Γ', hc⟩ := comp_ints (ns.take 10) none none []
  have hcc : cComp [none, none] (iLst (c2 uptoD (cVar 0) (cK (.int 10)))) (tVar 1) (fElt (c1 intD (cVar 1))) Γ [] = some (.lst ((ns.take 10).map D.int), []) :=
    comp_run hi rfl hc (by rw [List.length_map, List.length_take]; omega)
  unfold lawS0
  refine assign_run (d := .ref 0) (σ' := pool ((ns.take 10).map D.int) 0) ?_ rfl
  unfold cRef
  rw [cons_run hcc (cons_run (d := .int 0) rfl rfl)]; rfl
theorem draw_run {ns : List Int} {Γ : Gam} {i t many : Nat} {x : Cmd} (hn : ns.length ≤ 100) (ht : t ≤ 1000) (hm : 0 < many) (hi : Γ[i]? = some (some (.ref 0))) (hx : x Γ (pool (ns.map D.int) t) = some (nD many, pool (ns.map D.int) t)) :
    cCall law_drawF (cCons (cVar i) (cCons x cNil)) Γ (pool (ns.map D.int) t) = some (.int (drawP ns t many), pool (ns.map D.int) ((t + 1 : Nat) : Int)) :=
  call_run (ds := [.ref 0, nD many]) (cons_run (by unfold cVar; rw [hi]) (cons_run hx rfl)) (draw_eq hn ht hm)
noncomputable def G0 (X x1 x2 x5 x6 x7 x8 : Option D) : Gam := [X, x1, x2, none, none, x5, x6, x7, x8, none, none, none, none, none, none, none, none, none, none, none, none, none, none, none, none, none, none]
theorem s1_run {ns : List Int} {X : Option D} (hn : ns.length ≤ 100) : lawS1 (G0 X (some (.ref 0)) none none none none none) (pool (ns.map D.int) ((0 : Nat) : Int)) = some (.next, G0 X (some (.ref 0)) (some (.int (3 + drawP ns 0 2))) none none none none, pool (ns.map D.int) ((1 : Nat) : Int)) := by
  unfold lawS1
  exact assign_run (c2_runS (p := .int 3) rfl (draw_run (many := 2) hn (by omega) (by omega) rfl rfl) rfl) rfl
theorem s2_run3 {X : Option D} {σ : Sto} : lawS2 (G0 X (some (.ref 0)) (some (nD 3)) none none none none) σ = some (.next, G0 X (some (.ref 0)) (some (nD 3)) (some (.lst (pairs3.map pD))) none none none, σ) := by kernel_rfl
theorem s2_run4 {X : Option D} {σ : Sto} : lawS2 (G0 X (some (.ref 0)) (some (nD 4)) none none none none) σ = some (.next, G0 X (some (.ref 0)) (some (nD 4)) (some (.lst (pairs4.map pD))) none none none, σ) := by kernel_rfl
theorem s3_run {ns : List Int} {X N : Option D} {ps : List (Nat × Nat)} (hn : ns.length ≤ 100) (hp : ps.length ≤ 10) : lawS3 (G0 X (some (.ref 0)) N (some (.lst (ps.map pD))) none none none) (pool (ns.map D.int) ((1 : Nat) : Int)) =
    some (.next, G0 X (some (.ref 0)) N (some (.lst (ps.map pD))) (some (.lst (linesD (lnsP ns 1 ps)))) none none, pool (ns.map D.int) ((1 + ps.length : Nat) : Int)) := by
  obtain ⟨Γ', hc⟩ := lines_comp hn ps 1 none none none (by omega)
  have hl : ∀ (ps : List (Nat × Nat)) (t : Nat), (lnsP ns t ps).length = ps.length := by
    intro ps; induction ps with
    | nil => intro t; rfl
    | cons p ps ih => intro t; simp [lnsP, ih]
  unfold lawS3
  exact assign_run (comp_runS (items := ps.map pD) rfl rfl hc (by unfold linesD; rw [List.length_map, hl]; omega)) rfl
theorem s4_run {ns : List Int} {X N L6 : Option D} {ps : List (Nat × Nat)} {t : Nat} (hn : ns.length ≤ 100) (ht : t + 2 ≤ 1000) (hp : 0 < ps.length) (hp' : ps.length ≤ 10) : lawS4 (G0 X (some (.ref 0)) N (some (.lst (ps.map pD))) L6 none none) (pool (ns.map D.int) ((t : Nat) : Int)) =
    some (.next, G0 X (some (.ref 0)) N (some (.lst (ps.map pD))) L6 (some (.int (drawP ns t ps.length))) (some (.int (1 + drawP ns (t + 1) 3))), pool (ns.map D.int) ((t + 2 : Nat) : Int)) := by
  have hx : c1 lenD (cVar 5) (G0 X (some (.ref 0)) N (some (.lst (ps.map pD))) L6 none none) (pool (ns.map D.int) ((t : Nat) : Int)) = some (nD ps.length, pool (ns.map D.int) ((t : Nat) : Int)) := by
    refine c1_run (p := .lst (ps.map pD)) rfl ?_
    have := len_lst (σ := pool (ns.map D.int) ((t : Nat) : Int)) (l := ps.map pD) (by rw [List.length_map]; omega)
    rwa [List.length_map] at this
  have h1 := draw_run (i := 1) (Γ := G0 X (some (.ref 0)) N (some (.lst (ps.map pD))) L6 none none) hn (by omega : t ≤ 1000) hp rfl hx
  have h2 : c2 addD (cK (.int 1)) (cCall law_drawF (cCons (cVar 1) (cCons (cK (.int 3)) cNil))) (G0 X (some (.ref 0)) N (some (.lst (ps.map pD))) L6 none none) (pool (ns.map D.int) ((t + 1 : Nat) : Int)) = some (.int (1 + drawP ns (t + 1) 3), pool (ns.map D.int) ((t + 2 : Nat) : Int)) :=
    c2_runS (p := .int 1) rfl (draw_run (many := 3) hn (by omega) (by omega) rfl rfl) rfl
  unfold lawS4
  refine assign_run (d := .tup [.int (drawP ns t ps.length), .int (1 + drawP ns (t + 1) 3)]) (σ' := pool (ns.map D.int) ((t + 2 : Nat) : Int)) ?_ rfl
  unfold cTup
  rw [cons_runS h1 (cons_runS h2 rfl)]; rfl
theorem bound_ge {x : Int} {m : Nat} (h : 0 ≤ x ∧ x < m) : ∃ k : Nat, x = k ∧ k < m := by
  obtain ⟨k, hk⟩ := Int.eq_ofNat_of_zero_le h.1
  exact ⟨k, hk, by omega⟩
noncomputable def Box3 (P : Int → Int → Int → Prop) : Prop := ∀ a b c : Int, 1 ≤ a → a ≤ 3 → 0 ≤ b → b ≤ 2 → 1 ≤ c → c ≤ 3 → P a b c
noncomputable def Box4 (P : Int → Int → Int → Int → Int → Int → Prop) : Prop := ∀ a b c d e f : Int, 1 ≤ a → a ≤ 3 → 0 ≤ b → b ≤ 2 → 0 ≤ c → c ≤ 2 → 1 ≤ d → d ≤ 3 → 0 ≤ e → e ≤ 2 → 1 ≤ f → f ≤ 3 → P a b c d e f
theorem law_true_of (H3 : Box3 fun a b c => chk3 a b c = true) (H4 : Box4 fun a b c d e f => chk4 a b c d e f = true) (ns : List Int) (hns : ns.length ≤ 63) : ∃ σ', lawF [.scr (ns.map D.int)] [] = some (.bool true, σ') := by
  have hn : (ns.take 10).length ≤ 100 := by rw [List.length_take]; omega
  have hL : IntsL ((ns.take 10).map D.int) := ⟨_, rfl⟩
  refine ⟨[], ?_⟩
  have h0 := s0_run hns (G0 (some (.scr (ns.map D.int))) none none none none none none) rfl
  have h1 := s1_run (X := some (.scr (ns.map D.int))) hn
  generalize hm : ns.take 10 = ms at *
  have d3 : ∀ t, ∃ k : Nat, drawP ms t 3 = k ∧ k < 3 := fun t => bound_ge (draw_bound (by omega))
  obtain ⟨k0, e0, l0⟩ := bound_ge (draw_bound (ns := ms) (t := 0) (many := 2) (by omega))
  have hmo : ∀ t, 1 + drawP ms t 3 ∈ ([1, 2, 3] : List Int) := fun t => by
    obtain ⟨k, e, l⟩ := d3 t
    rw [e]
    have : k = 0 ∨ k = 1 ∨ k = 2 := by omega
    rcases this with rfl | rfl | rfl <;> decide
  have hk : k0 = 0 ∨ k0 = 1 := by omega
  rw [e0] at h1
  rcases hk with rfl | rfl
  · obtain ⟨sp, e5, l5⟩ := bound_ge (draw_bound (ns := ms) (t := 4) (many := 3) (by omega))
    obtain ⟨a, ea, la⟩ := d3 1
    obtain ⟨b, eb, lb⟩ := d3 2
    obtain ⟨c, ec, lc⟩ := d3 3
    have h3 := s3_run (X := some (.scr (ns.map D.int))) (N := some (nD 3)) (ps := pairs3) hn (by decide)
    have hls : lnsP ms 1 pairs3 = ls3 ((a : Int) + 1) ((b : Int) + 0) ((c : Int) + 1) := by
      rw [← ea, ← eb, ← ec]; rfl
    rw [hls] at h3
    have h4 := s4_run (X := some (.scr (ns.map D.int))) (N := some (nD 3)) (L6 := some (.lst (linesD (ls3 ((a : Int) + 1) ((b : Int) + 0) ((c : Int) + 1))))) (ps := pairs3) (t := 4) hn (by omega) (by decide) (by decide)
    rw [show pairs3.length = 3 from rfl, e5] at h4
    obtain ⟨Γ', h5⟩ := run3 (k := ((4 + 2 : Nat) : Int)) hL (H3 ((a : Int) + 1) ((b : Int) + 0) ((c : Int) + 1) (by omega) (by omega) (by omega) (by omega) (by omega) (by omega)) l5 (hmo 5) (some (.scr (ns.map D.int))) (some (.ref 0))
    have hc : c_law (G0 (some (.scr (ns.map D.int))) none none none none none none) [] = some (.ret (.bool true), Γ', pool (ms.map D.int) ((4 + 2 : Nat) : Int)) := by
      rw [c_law_split]
      exact (bCons_next h0).trans ((bCons_next h1).trans ((bCons_next s2_run3).trans ((bCons_next h3).trans ((bCons_next h4).trans h5))))
    exact mkFn_run rfl hc rfl
  · obtain ⟨sp, e5, l5⟩ := bound_ge (draw_bound (ns := ms) (t := 7) (many := 6) (by omega))
    obtain ⟨a, ea, la⟩ := d3 1
    obtain ⟨b, eb, lb⟩ := d3 2
    obtain ⟨c, ec, lc⟩ := d3 3
    obtain ⟨d, ed, ld⟩ := d3 4
    obtain ⟨e, ee, le⟩ := d3 5
    obtain ⟨f, ef, lf⟩ := d3 6
    have h3 := s3_run (X := some (.scr (ns.map D.int))) (N := some (nD 4)) (ps := pairs4) hn (by decide)
    have hls : lnsP ms 1 pairs4 = ls4 ((a : Int) + 1) ((b : Int) + 0) ((c : Int) + 0) ((d : Int) + 1) ((e : Int) + 0) ((f : Int) + 1) := by
      rw [← ea, ← eb, ← ec, ← ed, ← ee, ← ef]; rfl
    rw [hls] at h3
    have h4 := s4_run (X := some (.scr (ns.map D.int))) (N := some (nD 4)) (L6 := some (.lst (linesD (ls4 ((a : Int) + 1) ((b : Int) + 0) ((c : Int) + 0) ((d : Int) + 1) ((e : Int) + 0) ((f : Int) + 1))))) (ps := pairs4) (t := 7) hn (by omega) (by decide) (by decide)
    rw [show pairs4.length = 6 from rfl, e5] at h4
    obtain ⟨Γ', h5⟩ := run4 (k := ((7 + 2 : Nat) : Int)) hL (H4 ((a : Int) + 1) ((b : Int) + 0) ((c : Int) + 0) ((d : Int) + 1) ((e : Int) + 0) ((f : Int) + 1) (by omega) (by omega) (by omega) (by omega) (by omega) (by omega) (by omega) (by omega) (by omega) (by omega) (by omega) (by omega)) l5 (hmo 8) (some (.scr (ns.map D.int))) (some (.ref 0))
    have hc : c_law (G0 (some (.scr (ns.map D.int))) none none none none none none) [] = some (.ret (.bool true), Γ', pool (ms.map D.int) ((7 + 2 : Nat) : Int)) := by
      rw [c_law_split]
      exact (bCons_next h0).trans ((bCons_next h1).trans ((bCons_next s2_run4).trans ((bCons_next h3).trans ((bCons_next h4).trans h5))))
    exact mkFn_run rfl hc rfl
end Mine
-- K1
set_option maxHeartbeats 4000000
namespace Mine
open PySem PySem.W PyProof.Rows
theorem nz_of {i : Int} (h : i ≠ 0) : nz i = true := by
  unfold nz
  cases q : isZ i with
  | false => rfl
  | true => exact absurd (isZ_iff.mp q) h
theorem bmul {x y : Int} {B C : Nat} (hx : x.natAbs ≤ B) (hy : y.natAbs ≤ C) : (x * y).natAbs ≤ B * C := by
  rw [Int.natAbs_mul]; exact Nat.mul_le_mul hx hy
theorem tiny_of {i : Int} (h : i.natAbs < 2147483648) : tiny i = true := by unfold tiny; rw [Nat.blt_eq]; exact h
noncomputable def Bd (B : Nat) (l : List Int) : Prop := ∀ t ∈ l, t.natAbs ≤ B
theorem Bd.mono {B C : Nat} {l : List Int} (h : Bd B l) (hBC : B ≤ C) : Bd C l := fun t ht => Nat.le_trans (h t ht) hBC
theorem Bd.cons {B : Nat} {x : Int} {l : List Int} (hx : x.natAbs ≤ B) (h : Bd B l) : Bd B (x :: l) := fun t ht => by
  rcases List.mem_cons.mp ht with rfl | ht
  · exact hx
  · exact h t ht
theorem Bd.nil {B : Nat} : Bd B [] := fun t ht => nomatch ht
theorem Bd.hd {B : Nat} {x : Int} {l : List Int} (h : Bd B (x :: l)) : x.natAbs ≤ B := h x (.head _)
theorem Bd.tl {B : Nat} {x : Int} {l : List Int} (h : Bd B (x :: l)) : Bd B l := fun t ht => h t (.tail _ ht)
theorem rowI_len {l x : Int} : ∀ {ms ps : List Int}, ms.length = ps.length → (rowI l x ms ps).length = ms.length
  | [], [], _ => rfl
  | m :: ms, s :: ps, h => by simp only [rowI, List.length_cons]; rw [rowI_len (by simpa using h)]
theorem rowI_one : ∀ {ms ps : List Int}, ms.length = ps.length → rowI 1 0 ms ps = ms
  | [], [], _ => rfl
  | m :: ms, s :: ps, h => by
    simp only [rowI]; rw [rowI_one (by simpa using h), Int.mul_one, Int.zero_mul, Int.sub_zero]
theorem rowI_bd {l x : Int} {B : Nat} (hl : l.natAbs ≤ B) (hx : x.natAbs ≤ B) : ∀ {ms ps : List Int}, ms.length = ps.length → Bd B ms → Bd B ps → Bd (2 * (B * B)) (rowI l x ms ps)
  | [], [], _, _, _ => Bd.nil
  | m :: ms, s :: ps, h, hm, hs => by
    simp only [rowI]
    refine Bd.cons ?_ (rowI_bd hl hx (by simpa using h) hm.tl hs.tl)
    have h1 := bmul hm.hd hl
    have h2 := bmul hx hs.hd
    omega
theorem okRow_of {l x : Int} {B : Nat} (hB : 2 * (B * B) < 4611686018427387904) (hx : x.natAbs ≤ B) : ∀ {ms ps : List Int}, ms.length = ps.length → Bd B ps → okRow l x ms ps = true
  | [], [], _, _ => rfl
  | m :: ms, s :: ps, h, hs => by
    have h2 := bmul hx hs.hd
    unfold okRow
    rw [small_of (by omega), okRow_of hB hx (by simpa using h) hs.tl]; rfl
noncomputable def dotV : List Int → List Int → Int
  | v :: vs, t :: ts => v * t + dotV vs ts
  | _, _ => 0
theorem dotV_row {l x : Int} : ∀ {v ms ps : List Int}, ms.length = ps.length → v.length = ms.length → dotV v (rowI l x ms ps) = l * dotV v ms - x * dotV v ps
  | [], [], [], _, _ => by simp [dotV, rowI]
  | v :: vs, m :: ms, s :: ps, h, h' => by
    simp only [rowI, dotV]
    rw [dotV_row (v := vs) (ms := ms) (ps := ps) (by simpa using h) (by simpa using h')]
    grind
theorem offU {B c : Nat} {d l x : Int} {m ps : List Int} (hl : 0 < l) (hlB : l.natAbs ≤ B) (hd : 0 < d) (hdl : (d * l).natAbs < 2147483648) (hB : 2 * (B * B) < 4611686018427387904) (hm : Bd B m) (hs : Bd B ps) (hlen : m.length = ps.length) (hx : m[c]? = some x) :
    ∃ κ ξ : Int, 0 < κ ∧ κ.natAbs ≤ B ∧ κ * x = ξ * l ∧ offI1 l ps c (d, m) = some (d * κ, rowI κ ξ m ps) ∧ Bd (2 * (B * B)) (rowI κ ξ m ps) := by
  have hxB := hm x (List.mem_of_getElem? hx)
  by_cases h0 : x = 0
  · subst h0
    refine ⟨1, 0, by omega, by omega, by omega, ?_, rowI_bd (by omega) (by omega) hlen hm hs⟩
    rw [rowI_one hlen, Int.mul_one]
    show (m[c]?).bind _ = _
    rw [hx]; rfl
  · refine ⟨l, x, hl, hlB, Int.mul_comm _ _, ?_, rowI_bd hlB hxB hlen hm hs⟩
    show (m[c]?).bind _ = _
    rw [hx]
    simp only [Option.bind_some]
    have hz : isZ x = false := by
      cases q : isZ x with
      | false => rfl
      | true => exact absurd (isZ_iff.mp q) h0
    have hr := rowI_bd hlB hxB hlen hm hs
    have hal : (rowI l x m ps).all small = true := by
      rw [List.all_eq_true]; intro t ht
      exact small_of (by have := hr t ht; omega)
    rw [hz]
    simp only [tiny_of hdl, okRow_of hB hxB hlen hs, hal, Bool.and_self]
theorem step0_eq {l : Int} {A : List Int} {da : Int} {rB rC rB' rC' : IRow} (h0 : A[0]? = some l) (hl : 0 < l) (ht : l.natAbs < 2147483648) (hB : offI1 l A 0 rB = some rB') (hC : offI1 l A 0 rC = some rC') : stepI 0 [(da, A), rB, rC] = some [(l, A), rB', rC'] := by
  show (A[0]?).bind _ = _
  rw [h0]
  simp only [Option.bind_some, isPos_of hl, tiny_of ht, Bool.and_self]
  show (some ((l, A) : IRow)).bind (fun r' => (((offI1 l A 0 rB)).bind fun r' => (((offI1 l A 0 rC)).bind fun r' => ((some []).bind fun m => some (r' :: m))).bind fun m => some (r' :: m)).bind fun m => some (r' :: m)) = _
  rw [hB, hC]; rfl
theorem step1_eq {l : Int} {B : List Int} {db : Int} {rA rC rA' rC' : IRow} (h0 : B[1]? = some l) (hl : 0 < l) (ht : l.natAbs < 2147483648) (hA : offI1 l B 1 rA = some rA') (hC : offI1 l B 1 rC = some rC') : stepI 1 [rA, (db, B), rC] = some [rA', (l, B), rC'] := by
  show (B[1]?).bind _ = _
  rw [h0]
  simp only [Option.bind_some, isPos_of hl, tiny_of ht, Bool.and_self]
  show (offI1 l B 1 rA).bind (fun r' => (((some ((l, B) : IRow))).bind fun r' => (((offI1 l B 1 rC)).bind fun r' => ((some []).bind fun m => some (r' :: m))).bind fun m => some (r' :: m)).bind fun m => some (r' :: m)) = _
  rw [hA, hC]; rfl
theorem step2_eq {l : Int} {C : List Int} {dc : Int} {rA rB rA' rB' : IRow} (h0 : C[2]? = some l) (hl : 0 < l) (ht : l.natAbs < 2147483648) (hA : offI1 l C 2 rA = some rA') (hB : offI1 l C 2 rB = some rB') : stepI 2 [rA, rB, (dc, C)] = some [rA', rB', (l, C)] := by
  show (C[2]?).bind _ = _
  rw [h0]
  simp only [Option.bind_some, isPos_of hl, tiny_of ht, Bool.and_self]
  show (offI1 l C 2 rA).bind (fun r' => (((offI1 l C 2 rB)).bind fun r' => (((some ((l, C) : IRow))).bind fun r' => ((some []).bind fun m => some (r' :: m))).bind fun m => some (r' :: m)).bind fun m => some (r' :: m)) = _
  rw [hA, hB]; rfl
theorem jd0 {a0 a1 b0 b1 κ ξ : Int} (h : κ * b0 = ξ * a0) : a0 * (b1 * κ - ξ * a1) = κ * (a0 * b1 - b0 * a1) := by grind
theorem jd1 {l1 c1 c2 b2 κ ξ : Int} (h : κ * c1 = ξ * l1) : l1 * (c2 * κ - ξ * b2) = κ * (l1 * c2 - c1 * b2) := by grind
theorem jd2 {a0 a1 a2 b0 b1 b2 c0 c1 c2 κ ξ κ' ξ' : Int} (h : κ * b0 = ξ * a0) (h' : κ' * c0 = ξ' * a0) :
    a0 * ((b1 * κ - ξ * a1) * (c2 * κ' - ξ' * a2) - (c1 * κ' - ξ' * a1) * (b2 * κ - ξ * a2)) = κ * κ' * (a0 * (b1 * c2 - b2 * c1) - a1 * (b0 * c2 - b2 * c0) + a2 * (b0 * c1 - b1 * c0)) := by grind
theorem jd3 {x y z a0 a1 a2 b0 b1 b2 κ ξ : Int} (h : κ * b0 = ξ * a0) : y * (b1 * κ - ξ * a1) + z * (b2 * κ - ξ * a2) = κ * (x * b0 + y * b1 + z * b2) - ξ * (x * a0 + y * a1 + z * a2) := by grind
theorem jd4 {x y z a0 a1 a2 l1 b2 κ ξ : Int} (h : κ * a1 = ξ * l1) : x * (a0 * κ) + z * (a2 * κ - ξ * b2) = κ * (x * a0 + y * a1 + z * a2) - ξ * (y * l1 + z * b2) := by grind
theorem jd5 {y z c1 c2 l1 b2 κ ξ : Int} (h : κ * c1 = ξ * l1) : z * (c2 * κ - ξ * b2) = κ * (y * c1 + z * c2) - ξ * (y * l1 + z * b2) := by grind
theorem jd6 {p x z a2 l2 κ ξ : Int} (h : κ * a2 = ξ * l2) : p * κ * x = κ * (x * p + z * a2) - ξ * (z * l2) := by grind
structure Ech3 (a0 a1 a2 : Int) (ta : List Int) (b0 b1 b2 : Int) (tb : List Int) (c0 c1 c2 : Int) (tc : List Int) (d0 d1 d2 : Int) (tA tB tC : List Int) : Prop where
  eq : echI 3 0 [(1, a0 :: a1 :: a2 :: ta), (1, b0 :: b1 :: b2 :: tb), (1, c0 :: c1 :: c2 :: tc)] = some [(d0, d0 :: 0 :: 0 :: tA), (d1, 0 :: d1 :: 0 :: tB), (d2, 0 :: 0 :: d2 :: tC)]
  p0 : 0 < d0
  p1 : 0 < d1
  p2 : 0 < d2
  lA : tA.length = ta.length
  lB : tB.length = ta.length
  lC : tC.length = ta.length
  sol : ∀ (x y z : Int) (v : List Int), v.length = ta.length → x * a0 + y * a1 + z * a2 = dotV v ta → x * b0 + y * b1 + z * b2 = dotV v tb → x * c0 + y * c1 + z * c2 = dotV v tc → d0 * x = dotV v tA ∧ d1 * y = dotV v tB ∧ d2 * z = dotV v tC
theorem ech3 {a0 a1 a2 b0 b1 b2 c0 c1 c2 : Int} {ta tb tc : List Int} (hab : tb.length = ta.length) (hac : tc.length = ta.length) (Ba : Bd 10 (a0 :: a1 :: a2 :: ta)) (Bb : Bd 10 (b0 :: b1 :: b2 :: tb)) (Bc : Bd 10 (c0 :: c1 :: c2 :: tc))
    (h0 : 0 < a0) (h1 : 0 < a0 * b1 - b0 * a1) (h2 : 0 < a0 * (b1 * c2 - b2 * c1) - a1 * (b0 * c2 - b2 * c0) + a2 * (b0 * c1 - b1 * c0)) :
    ∃ d0 d1 d2 tA tB tC, Ech3 a0 a1 a2 ta b0 b1 b2 tb c0 c1 c2 tc d0 d1 d2 tA tB tC := by
  have hab' : (b0 :: b1 :: b2 :: tb).length = (a0 :: a1 :: a2 :: ta).length := by simp [hab]
  have hac' : (c0 :: c1 :: c2 :: tc).length = (a0 :: a1 :: a2 :: ta).length := by simp [hac]
  have q0 := Ba.hd
  -- step 0
  obtain ⟨κ1, ξ1, k1, kb1, kx1, e1, g1⟩ := offU (c := 0) (d := 1) h0 q0 (by omega) (by omega) (by omega) Bb Ba hab' rfl
  obtain ⟨κ2, ξ2, k2, kb2, kx2, e2, g2⟩ := offU (c := 0) (d := 1) h0 q0 (by omega) (by omega) (by omega) Bc Ba hac' rfl
  have S0 := step0_eq (da := 1) (l := a0) (A := a0 :: a1 :: a2 :: ta) rfl h0 (by omega) e1 e2
  simp only [rowI] at S0 g1 g2
  obtain ⟨l1, hl1⟩ : ∃ l1, l1 = b1 * κ1 - ξ1 * a1 := ⟨_, rfl⟩
  obtain ⟨b2', hb2⟩ : ∃ x, x = b2 * κ1 - ξ1 * a2 := ⟨_, rfl⟩
  obtain ⟨c1', hc1⟩ : ∃ x, x = c1 * κ2 - ξ2 * a1 := ⟨_, rfl⟩
  obtain ⟨c2', hc2⟩ : ∃ x, x = c2 * κ2 - ξ2 * a2 := ⟨_, rfl⟩
  obtain ⟨tb', htb⟩ : ∃ x, x = rowI κ1 ξ1 tb ta := ⟨_, rfl⟩
  obtain ⟨tc', htc⟩ : ∃ x, x = rowI κ2 ξ2 tc ta := ⟨_, rfl⟩
  have z1 : b0 * κ1 - ξ1 * a0 = 0 := by rw [← kx1, Int.mul_comm]; omega
  have z2 : c0 * κ2 - ξ2 * a0 = 0 := by rw [← kx2, Int.mul_comm]; omega
  rw [z1, z2, ← hl1, ← hb2, ← hc1, ← hc2, ← htb, ← htc, Int.one_mul, Int.one_mul] at S0
  rw [z1, ← hl1, ← hb2, ← htb] at g1
  rw [z2, ← hc1, ← hc2, ← htc] at g2
  have ltb : tb'.length = ta.length := by rw [htb, rowI_len hab, hab]
  have ltc : tc'.length = ta.length := by rw [htc, rowI_len hac, hac]
  have pl1 : 0 < l1 := by
    refine pos_r (g := a0) ?_ h0
    have : a0 * l1 = κ1 * (a0 * b1 - b0 * a1) := by rw [hl1]; exact jd0 kx1
    rw [this]; exact Int.mul_pos k1 h1
  have bl1 : l1.natAbs ≤ 200 := g1.tl.hd
  -- step 1
  have Ba' : Bd 200 (a0 :: a1 :: a2 :: ta) := Ba.mono (by omega)
  obtain ⟨κ3, ξ3, k3, kb3, kx3, e3, g3⟩ := offU (B := 200) (c := 1) (d := a0) pl1 bl1 h0 (by have := bmul q0 bl1; omega) (by omega) Ba' g1 (by simp [ltb]) rfl
  obtain ⟨κ4, ξ4, k4, kb4, kx4, e4, g4⟩ := offU (B := 200) (c := 1) (d := κ2) pl1 bl1 k2 (by have := bmul kb2 bl1; omega) (by omega) g2 g1 (by simp [ltb, ltc]) rfl
  have S1 := step1_eq (db := κ1) (l := l1) (B := 0 :: l1 :: b2' :: tb') rfl pl1 (by omega) e3 e4
  simp only [rowI] at S1 g3 g4
  obtain ⟨a2', ha2⟩ : ∃ x, x = a2 * κ3 - ξ3 * b2' := ⟨_, rfl⟩
  obtain ⟨l2, hl2⟩ : ∃ x, x = c2' * κ4 - ξ4 * b2' := ⟨_, rfl⟩
  obtain ⟨ta', hta⟩ : ∃ x, x = rowI κ3 ξ3 ta tb' := ⟨_, rfl⟩
  obtain ⟨tc'', htc'⟩ : ∃ x, x = rowI κ4 ξ4 tc' tb' := ⟨_, rfl⟩
  have z3 : a1 * κ3 - ξ3 * l1 = 0 := by rw [← kx3, Int.mul_comm]; omega
  have z4 : c1' * κ4 - ξ4 * l1 = 0 := by rw [← kx4, Int.mul_comm]; omega
  have z3' : a0 * κ3 - ξ3 * 0 = a0 * κ3 := by omega
  have z4' : 0 * κ4 - ξ4 * 0 = 0 := by omega
  rw [z3, z4, z3', z4', ← ha2, ← hl2, ← hta, ← htc'] at S1
  rw [z3, z3', ← ha2, ← hta] at g3
  rw [z4, z4', ← hl2, ← htc'] at g4
  have lta : ta'.length = ta.length := by rw [hta, rowI_len (by rw [ltb])]
  have ltc2 : tc''.length = ta.length := by rw [htc', rowI_len (by rw [ltb, ltc]), ltc]
  have pl2 : 0 < l2 := by
    have x1 : l1 * l2 = κ4 * (l1 * c2' - c1' * b2') := by rw [hl2]; exact jd1 kx4
    have x2 : a0 * (l1 * c2' - c1' * b2') = κ1 * κ2 * (a0 * (b1 * c2 - b2 * c1) - a1 * (b0 * c2 - b2 * c0) + a2 * (b0 * c1 - b1 * c0)) := by rw [hl1, hb2, hc1, hc2]; exact jd2 kx1 kx2
    refine pos_r (g := l1) ?_ pl1
    rw [x1]
    refine Int.mul_pos k4 (pos_r (g := a0) ?_ h0)
    rw [x2]
    exact Int.mul_pos (Int.mul_pos k1 k2) h2
  have bl2 : l2.natAbs ≤ 80000 := g4.tl.tl.hd
  have pa : 0 < a0 * κ3 := Int.mul_pos h0 k3
  have pab := bmul q0 kb3
  -- step 2
  obtain ⟨κ5, ξ5, k5, kb5, kx5, e5, g5⟩ := offU (B := 80000) (c := 2) (d := a0 * κ3) pl2 bl2 pa (by have := bmul pab bl2; omega) (by omega) g3 g4 (by simp [lta, ltc2]) rfl
  obtain ⟨κ6, ξ6, k6, kb6, kx6, e6, g6⟩ := offU (B := 80000) (c := 2) (d := l1) pl2 bl2 pl1 (by have := bmul bl1 bl2; omega) (by omega) (g1.mono (by omega)) g4 (by simp [ltb, ltc2]) rfl
  have S2 := step2_eq (dc := κ2 * κ4) (l := l2) (C := 0 :: 0 :: l2 :: tc'') rfl pl2 (by omega) e5 e6
  simp only [rowI] at S2
  have z5 : a2' * κ5 - ξ5 * l2 = 0 := by rw [← kx5, Int.mul_comm]; omega
  have z6 : b2' * κ6 - ξ6 * l2 = 0 := by rw [← kx6, Int.mul_comm]; omega
  have z5' : a0 * κ3 * κ5 - ξ5 * 0 = a0 * κ3 * κ5 := by omega
  have z5'' : 0 * κ5 - ξ5 * 0 = 0 := by omega
  have z6' : l1 * κ6 - ξ6 * 0 = l1 * κ6 := by omega
  have z6'' : 0 * κ6 - ξ6 * 0 = 0 := by omega
  rw [z5, z6, z5', z5'', z6', z6''] at S2
  refine ⟨a0 * κ3 * κ5, l1 * κ6, l2, rowI κ5 ξ5 ta' tc'', rowI κ6 ξ6 tb' tc'', tc'', ?_, Int.mul_pos pa k5, Int.mul_pos pl1 k6, pl2, ?_, ?_, ltc2, ?_⟩
  · show (stepI 0 _).bind (fun r => (stepI 1 r).bind fun r => (stepI 2 r).bind fun r => some r) = _
    rw [S0]
    simp only [Option.bind_some]
    rw [S1]
    simp only [Option.bind_some]
    rw [S2]; rfl
  · rw [rowI_len (by rw [lta, ltc2]), lta]
  · rw [rowI_len (by rw [ltb, ltc2]), ltb]
  · intro x y z v hv ea eb ec
    have fb : y * l1 + z * b2' = dotV v tb' := by
      rw [htb, dotV_row hab (by rw [hv, hab]), ← ea, ← eb, hl1, hb2]; exact jd3 kx1
    have fc : y * c1' + z * c2' = dotV v tc' := by
      rw [htc, dotV_row hac (by rw [hv, hac]), ← ea, ← ec, hc1, hc2]; exact jd3 kx2
    have fa : x * (a0 * κ3) + z * a2' = dotV v ta' := by
      rw [hta, dotV_row (by rw [ltb]) hv, ← ea, ← fb, ha2]; exact jd4 kx3
    have fc' : z * l2 = dotV v tc'' := by
      rw [htc', dotV_row (by rw [ltb, ltc]) (by rw [hv, ltc]), ← fb, ← fc, hl2]; exact jd5 kx4
    refine ⟨?_, ?_, ?_⟩
    · rw [dotV_row (by rw [lta, ltc2]) (by rw [hv, lta]), ← fa, ← fc']; exact jd6 kx5
    · rw [dotV_row (by rw [ltb, ltc2]) (by rw [hv, ltb]), ← fb, ← fc']; exact jd6 kx6
    · rw [← fc']; exact Int.mul_comm _ _
end Mine
-- K2
set_option maxHeartbeats 4000000
namespace Mine
open PySem PySem.W PyProof.Rows
theorem nf_eq {t b p q : Int} (hb : 0 < b) (hq : 0 < q) (h : t * q = p * b) : nf t b = nf p q := by
  rw [← nf_scale (t := t) hq hb, ← nf_scale (t := p) hb hq, Int.mul_comm q t, h, Int.mul_comm p b, Int.mul_comm q b]
structure NfS (t b : Int) (x : Q) : Prop where
  n1 : x.1.natAbs ≤ t.natAbs
  n2 : x.2.natAbs ≤ b.natAbs
  e : x.1 * b = t * x.2
theorem nfS {t b : Int} (hb : 0 < b) : NfS t b (nf t b) := by
  obtain ⟨g, p, q, hg, ht, hb', e, hq⟩ := nf_spec (t := t) hb
  rw [e]
  refine ⟨by rw [ht]; exact abs_le_mul hg, by rw [hb']; exact abs_le_mul hg, ?_⟩
  show p * b = t * q
  rw [ht, hb']; grind
theorem smB {x : Int} {B : Nat} (h : x.natAbs ≤ B) (hB : B < 4611686018427387904) : small x = true := small_of (Nat.lt_of_le_of_lt h hB)
theorem addB {x y : Int} {B C : Nat} (hx : x.natAbs ≤ B) (hy : y.natAbs ≤ C) : (x + y).natAbs ≤ B + C := Nat.le_trans (Int.natAbs_add_le x y) (Nat.add_le_add hx hy)
theorem subB {x y : Int} {B C : Nat} (hx : x.natAbs ≤ B) (hy : y.natAbs ≤ C) : (x - y).natAbs ≤ B + C := Nat.le_trans (Int.natAbs_sub_le x y) (Nat.add_le_add hx hy)
theorem sm2 {x y z t : Int} (hx : x.natAbs ≤ 20) (hy : y.natAbs ≤ 20) (hz : z.natAbs ≤ 20) (ht : t.natAbs ≤ 20) : small (x * y - z * t) = true := smB (subB (bmul hx hy) (bmul hz ht)) (by decide)
theorem sml {x : Int} (h : x.natAbs ≤ 20) : small x = true := smB h (by decide)
theorem ne_pos {x : Int} (h : 0 < x) : x ≠ 0 := fun e => by rw [e] at h; exact absurd h (Int.lt_irrefl 0)
theorem w20 {n : Nat} (h : n ≤ 10) : n ≤ 20 := Nat.le_trans h (by decide)
theorem jf0 {f1 f2 s1 s2 b1 b2 A B C wh : Int} (hf : f1 * wh = A * f2) (hs : s1 * wh = B * s2) (hb : b1 * wh = C * b2) : ((f1 * s2 + s1 * f2) * b2 - 2 * b1 * f2 * s2) * wh = (A + B - 2 * C) * (f2 * s2 * b2) := by grind
theorem jf1 {f1 f2 s1 s2 A B wh : Int} (hf : f1 * wh = A * f2) (hs : s1 * wh = B * s2) : (f1 * s2 + s1 * f2) * wh = (A + B) * (f2 * s2) := by grind
theorem pair0 {A ap wh : Int} (hw : 0 < wh) (he : A = ap) (hb : ap.natAbs ≤ 1000) : (fun q : Q => small q.1 && small ap && (q.1 * wh == ap * q.2)) (nf A wh) = true := by
  subst he
  have h := nfS (t := A) hw
  simp only [Bool.and_eq_true, beq_iff_eq]
  exact ⟨⟨smB (Nat.le_trans h.n1 hb) (by decide), smB hb (by decide)⟩, h.e⟩
theorem pairS {A B C ap wh : Int} (hw : 0 < wh) (hw' : wh.natAbs ≤ 1000) (hA : A.natAbs ≤ 1000) (hB : B.natAbs ≤ 1000) (hC : C.natAbs ≤ 1000) (he : A + B - 2 * C = ap) (hb : ap.natAbs ≤ 1000) :
    (fun f s b : Q => small f.2 && small (f.2 * s.2) && small f.1 && small s.1 && small (f.1 * s.2 + s.1 * f.2) && small (2 * b.1) && small (2 * b.1 * f.2) && small ap &&
      (fun top : Int => small top && (top * wh == ap * (f.2 * s.2 * b.2))) ((f.1 * s.2 + s.1 * f.2) * b.2 - 2 * b.1 * f.2 * s.2)) (nf A wh) (nf B wh) (nf C wh) = true := by
  have f := nfS (t := A) hw
  have s := nfS (t := B) hw
  have b := nfS (t := C) hw
  generalize nf A wh = F at *
  generalize nf B wh = S at *
  generalize nf C wh = E at *
  have f1 : F.1.natAbs ≤ 1000 := Nat.le_trans f.n1 hA
  have s1 : S.1.natAbs ≤ 1000 := Nat.le_trans s.n1 hB
  have b1 : E.1.natAbs ≤ 1000 := Nat.le_trans b.n1 hC
  have f2 : F.2.natAbs ≤ 1000 := Nat.le_trans f.n2 hw'
  have s2 : S.2.natAbs ≤ 1000 := Nat.le_trans s.n2 hw'
  have b2 : E.2.natAbs ≤ 1000 := Nat.le_trans b.n2 hw'
  have m4 := addB (bmul f1 s2) (bmul s1 f2)
  have m5 := bmul (x := 2) (B := 2) (Nat.le_refl 2) b1
  have m6 := bmul m5 f2
  simp only [Bool.and_eq_true, beq_iff_eq]
  refine ⟨⟨⟨⟨⟨⟨⟨⟨smB f2 (by decide), smB (bmul f2 s2) (by decide)⟩, smB f1 (by decide)⟩, smB s1 (by decide)⟩, smB m4 (by decide)⟩, smB m5 (by decide)⟩, smB m6 (by decide)⟩, smB hb (by decide)⟩, smB (subB (bmul m4 b2) (bmul m6 s2)) (by decide), ?_⟩
  rw [← he]
  exact jf0 f.e s.e b.e
theorem stepOk_of {X Y two ap wh : Int} (hw : 0 < wh) (hw' : wh.natAbs ≤ 1000) (hX : X.natAbs ≤ 1000000) (hY : Y.natAbs ≤ 1000000) (ht : two.natAbs ≤ 1000) (ha : ap.natAbs ≤ 1000) (he : X + Y = two * ap) : stepOk wh two ap (nf X wh) (nf Y wh) = true := by
  have f := nfS (t := X) hw
  have s := nfS (t := Y) hw
  generalize nf X wh = F at *
  generalize nf Y wh = S at *
  have f1 : F.1.natAbs ≤ 1000000 := Nat.le_trans f.n1 hX
  have s1 : S.1.natAbs ≤ 1000000 := Nat.le_trans s.n1 hY
  have f2 : F.2.natAbs ≤ 1000 := Nat.le_trans f.n2 hw'
  have s2 : S.2.natAbs ≤ 1000 := Nat.le_trans s.n2 hw'
  unfold stepOk
  simp only [Bool.and_eq_true, beq_iff_eq]
  refine ⟨⟨⟨⟨⟨smB f1 (by decide), smB f2 (by decide)⟩, smB s1 (by decide)⟩, smB (addB (bmul f1 s2) (bmul s1 f2)) (by decide)⟩, smB (bmul ht ha) (by decide)⟩, ?_⟩
  rw [jf1 f.e s.e, he]
-- determinants
theorem det2_ok {p u u' q D : Int} (hp : 0 < p) (hD : D = q * p - u' * u) (h0 : 0 < D) (b1 : q.natAbs ≤ 20) (b2 : u'.natAbs ≤ 20) : detP [[p, u], [u', q]] = some D := by
  subst hD
  show (match nz p && nz (q * p - u' * u) && small q && small u' with | true => some (q * p - u' * u) | false => none) = _
  rw [nz_of (ne_pos hp), nz_of (ne_pos h0), sml b1, sml b2]; rfl
theorem jdet (p u v u' q w v' w' r : Int) : (r * p - v' * v) * (q * p - u' * u) - (w' * p - v' * u) * (w * p - u' * v) = p * (p * (q * r - w * w') - u * (u' * r - w * v') + v * (u' * w' - q * v')) := by grind
theorem det3_ok {p u v u' q w v' w' r D : Int} (hp : 0 < p) (h2 : 0 < p * q - u' * u) (hD : D = p * (q * r - w * w') - u * (u' * r - w * v') + v * (u' * w' - q * v')) (h0 : 0 < D)
    (b1 : p.natAbs ≤ 20) (b2 : u.natAbs ≤ 20) (b3 : v.natAbs ≤ 20) (b4 : u'.natAbs ≤ 20) (b5 : q.natAbs ≤ 20) (b6 : w.natAbs ≤ 20) (b7 : v'.natAbs ≤ 20) (b8 : w'.natAbs ≤ 20) (b9 : r.natAbs ≤ 20) :
    detP [[p, u, v], [u', q, w], [v', w', r]] = some D := by
  subst hD
  have e : ((r * p - v' * v) * (q * p - u' * u) - (w' * p - v' * u) * (w * p - u' * v)).fdiv p = p * (q * r - w * w') - u * (u' * r - w * v') + v * (u' * w' - q * v') := by
    rw [jdet, Int.mul_fdiv_cancel_left _ (ne_pos hp)]
  have hq : 0 < q * p - u' * u := by rw [Int.mul_comm q p]; exact h2
  show d3P p u v u' q w v' w' r = _
  unfold d3P
  rw [nz_of (ne_pos hp), sml b1, sml b5, sml b4, sml b6, sml b8, sml b7, sml b9, nz_of (ne_pos hq), sm2 b9 b1 b7 b3, sm2 b8 b1 b7 b2, sm2 b5 b1 b4 b2, e]
  show nzO _ = _
  unfold nzO
  rw [nz_of (ne_pos h0)]
-- the systems
theorem js0 (p u v u' q w v' w' r g0 g1 g2 : Int) : ((q * r - w * w') * g0 - (u * r - v * w') * g1 + (u * w - v * q) * g2) * p + ((w * v' - u' * r) * g0 + (p * r - v * v') * g1 - (p * w - v * u') * g2) * u + ((u' * w' - q * v') * g0 - (p * w' - u * v') * g1 + (p * q - u * u') * g2) * v =
    (p * (q * r - w * w') - u * (u' * r - w * v') + v * (u' * w' - q * v')) * g0 := by grind
theorem js1 (p u v u' q w v' w' r g0 g1 g2 : Int) : ((q * r - w * w') * g0 - (u * r - v * w') * g1 + (u * w - v * q) * g2) * u' + ((w * v' - u' * r) * g0 + (p * r - v * v') * g1 - (p * w - v * u') * g2) * q + ((u' * w' - q * v') * g0 - (p * w' - u * v') * g1 + (p * q - u * u') * g2) * w =
    (p * (q * r - w * w') - u * (u' * r - w * v') + v * (u' * w' - q * v')) * g1 := by grind
theorem js2 (p u v u' q w v' w' r g0 g1 g2 : Int) : ((q * r - w * w') * g0 - (u * r - v * w') * g1 + (u * w - v * q) * g2) * v' + ((w * v' - u' * r) * g0 + (p * r - v * v') * g1 - (p * w - v * u') * g2) * w' + ((u' * w' - q * v') * g0 - (p * w' - u * v') * g1 + (p * q - u * u') * g2) * r =
    (p * (q * r - w * w') - u * (u' * r - w * v') + v * (u' * w' - q * v')) * g2 := by grind
noncomputable def cr0 (p u v u' q w v' w' r g0 g1 g2 : Int) : Int := (q * r - w * w') * g0 - (u * r - v * w') * g1 + (u * w - v * q) * g2
noncomputable def cr1 (p u v u' q w v' w' r g0 g1 g2 : Int) : Int := (w * v' - u' * r) * g0 + (p * r - v * v') * g1 - (p * w - v * u') * g2
noncomputable def cr2 (p u v u' q w v' w' r g0 g1 g2 : Int) : Int := (u' * w' - q * v') * g0 - (p * w' - u * v') * g1 + (p * q - u * u') * g2
noncomputable def de3 (p u v u' q w v' w' r : Int) : Int := p * (q * r - w * w') - u * (u' * r - w * v') + v * (u' * w' - q * v')
theorem len1 {l : List Int} (h : l.length = 1) : ∃ t, l = [t] := by
  match l, h with
  | [t], _ => exact ⟨t, rfl⟩
theorem len3 {l : List Int} (h : l.length = 3) : ∃ r s t, l = [r, s, t] := by
  match l, h with
  | [r, s, t], _ => exact ⟨r, s, t, rfl⟩
section
variable {p u v u' q w v' w' r D : Int} (hp : 0 < p) (h2 : 0 < p * q - u' * u) (hD : D = de3 p u v u' q w v' w' r) (h0 : 0 < D)
  (b1 : p.natAbs ≤ 10) (b2 : u.natAbs ≤ 10) (b3 : v.natAbs ≤ 10) (b4 : u'.natAbs ≤ 10) (b5 : q.natAbs ≤ 10) (b6 : w.natAbs ≤ 10) (b7 : v'.natAbs ≤ 10) (b8 : w'.natAbs ≤ 10) (b9 : r.natAbs ≤ 10)
include hp h2 hD h0 b1 b2 b3 b4 b5 b6 b7 b8 b9
theorem solve3 {g0 g1 g2 : Int} (c0 : g0.natAbs ≤ 10) (c1 : g1.natAbs ≤ 10) (c2 : g2.natAbs ≤ 10) :
    ((echI 3 0 ([[p, u, v], [u', q, w], [v', w', r]].map row1)).bind fun _ => (echI 3 0 ([[p, u, v, g0], [u', q, w, g1], [v', w', r, g2]].map row1)).map fun r => r.map (lastQ 3)) =
      some [nf (cr0 p u v u' q w v' w' r g0 g1 g2) D, nf (cr1 p u v u' q w v' w' r g0 g1 g2) D, nf (cr2 p u v u' q w v' w' r g0 g1 g2) D] := by
  have hd : 0 < p * (q * r - w * w') - u * (u' * r - w * v') + v * (u' * w' - q * v') := by unfold de3 at hD; omega
  obtain ⟨x0, x1, x2, xA, xB, xC, X⟩ := ech3 (ta := []) (tb := []) (tc := []) rfl rfl (Bd.cons b1 (Bd.cons b2 (Bd.cons b3 Bd.nil))) (Bd.cons b4 (Bd.cons b5 (Bd.cons b6 Bd.nil))) (Bd.cons b7 (Bd.cons b8 (Bd.cons b9 Bd.nil))) hp h2 hd
  obtain ⟨d0, d1, d2, tA, tB, tC, Y⟩ := ech3 (ta := [g0]) (tb := [g1]) (tc := [g2]) rfl rfl (Bd.cons b1 (Bd.cons b2 (Bd.cons b3 (Bd.cons c0 Bd.nil)))) (Bd.cons b4 (Bd.cons b5 (Bd.cons b6 (Bd.cons c1 Bd.nil)))) (Bd.cons b7 (Bd.cons b8 (Bd.cons b9 (Bd.cons c2 Bd.nil)))) hp h2 hd
  obtain ⟨s0, rfl⟩ := len1 Y.lA
  obtain ⟨s1, rfl⟩ := len1 Y.lB
  obtain ⟨s2, rfl⟩ := len1 Y.lC
  have hs := Y.sol (cr0 p u v u' q w v' w' r g0 g1 g2) (cr1 p u v u' q w v' w' r g0 g1 g2) (cr2 p u v u' q w v' w' r g0 g1 g2) [D] rfl
    (by rw [hD]; simp only [dotV, Int.add_zero]; exact js0 p u v u' q w v' w' r g0 g1 g2) (by rw [hD]; simp only [dotV, Int.add_zero]; exact js1 p u v u' q w v' w' r g0 g1 g2) (by rw [hD]; simp only [dotV, Int.add_zero]; exact js2 p u v u' q w v' w' r g0 g1 g2)
  simp only [dotV, Int.add_zero] at hs
  rw [show [[p, u, v], [u', q, w], [v', w', r]].map row1 = [(1, [p, u, v]), (1, [u', q, w]), (1, [v', w', r])] from rfl, X.eq]
  simp only [Option.bind_some]
  rw [show [[p, u, v, g0], [u', q, w, g1], [v', w', r, g2]].map row1 = [(1, [p, u, v, g0]), (1, [u', q, w, g1]), (1, [v', w', r, g2])] from rfl, Y.eq]
  show some [nf s0 d0, nf s1 d1, nf s2 d2] = _
  rw [nf_eq (p := cr0 p u v u' q w v' w' r g0 g1 g2) Y.p0 h0 (by rw [Int.mul_comm, ← hs.1, Int.mul_comm]), nf_eq (p := cr1 p u v u' q w v' w' r g0 g1 g2) Y.p1 h0 (by rw [Int.mul_comm, ← hs.2.1, Int.mul_comm]), nf_eq (p := cr2 p u v u' q w v' w' r g0 g1 g2) Y.p2 h0 (by rw [Int.mul_comm, ← hs.2.2, Int.mul_comm])]
theorem inv3T : ∃ rows, echI 3 0 ([[p, u, v, 1, 0, 0], [u', q, w, 0, 1, 0], [v', w', r, 0, 0, 1]].map row1) = some rows ∧
    toldOf 3 rows = [[nf (cr0 p u v u' q w v' w' r 1 0 0) D, nf (cr0 p u v u' q w v' w' r 0 1 0) D, nf (cr0 p u v u' q w v' w' r 0 0 1) D],
      [nf (cr1 p u v u' q w v' w' r 1 0 0) D, nf (cr1 p u v u' q w v' w' r 0 1 0) D, nf (cr1 p u v u' q w v' w' r 0 0 1) D],
      [nf (cr2 p u v u' q w v' w' r 1 0 0) D, nf (cr2 p u v u' q w v' w' r 0 1 0) D, nf (cr2 p u v u' q w v' w' r 0 0 1) D]] := by
  have hd : 0 < p * (q * r - w * w') - u * (u' * r - w * v') + v * (u' * w' - q * v') := by unfold de3 at hD; omega
  obtain ⟨d0, d1, d2, tA, tB, tC, Y⟩ := ech3 (ta := [1, 0, 0]) (tb := [0, 1, 0]) (tc := [0, 0, 1]) rfl rfl (Bd.cons b1 (Bd.cons b2 (Bd.cons b3 (Bd.cons (by omega) (Bd.cons (by omega) (Bd.cons (by omega) Bd.nil)))))) (Bd.cons b4 (Bd.cons b5 (Bd.cons b6 (Bd.cons (by omega) (Bd.cons (by omega) (Bd.cons (by omega) Bd.nil))))))
    (Bd.cons b7 (Bd.cons b8 (Bd.cons b9 (Bd.cons (by omega) (Bd.cons (by omega) (Bd.cons (by omega) Bd.nil)))))) hp h2 hd
  obtain ⟨s00, s01, s02, rfl⟩ := len3 Y.lA
  obtain ⟨s10, s11, s12, rfl⟩ := len3 Y.lB
  obtain ⟨s20, s21, s22, rfl⟩ := len3 Y.lC
  have hs0 := Y.sol (cr0 p u v u' q w v' w' r 1 0 0) (cr1 p u v u' q w v' w' r 1 0 0) (cr2 p u v u' q w v' w' r 1 0 0) [D, 0, 0] rfl
    (by rw [hD]; simp only [dotV, Int.add_zero, Int.zero_mul, Int.mul_zero, Int.zero_add]; exact js0 p u v u' q w v' w' r 1 0 0) (by rw [hD]; simp only [dotV, Int.add_zero, Int.zero_mul]; exact js1 p u v u' q w v' w' r 1 0 0) (by rw [hD]; simp only [dotV, Int.add_zero, Int.zero_mul]; exact js2 p u v u' q w v' w' r 1 0 0)
  have hs1 := Y.sol (cr0 p u v u' q w v' w' r 0 1 0) (cr1 p u v u' q w v' w' r 0 1 0) (cr2 p u v u' q w v' w' r 0 1 0) [0, D, 0] rfl
    (by rw [hD]; simp only [dotV, Int.add_zero, Int.zero_mul, Int.zero_add]; exact js0 p u v u' q w v' w' r 0 1 0) (by rw [hD]; simp only [dotV, Int.add_zero, Int.zero_mul, Int.zero_add]; exact js1 p u v u' q w v' w' r 0 1 0) (by rw [hD]; simp only [dotV, Int.add_zero, Int.zero_mul, Int.zero_add]; exact js2 p u v u' q w v' w' r 0 1 0)
  have hs2 := Y.sol (cr0 p u v u' q w v' w' r 0 0 1) (cr1 p u v u' q w v' w' r 0 0 1) (cr2 p u v u' q w v' w' r 0 0 1) [0, 0, D] rfl
    (by rw [hD]; simp only [dotV, Int.add_zero, Int.zero_mul, Int.zero_add]; exact js0 p u v u' q w v' w' r 0 0 1) (by rw [hD]; simp only [dotV, Int.add_zero, Int.zero_mul, Int.zero_add]; exact js1 p u v u' q w v' w' r 0 0 1) (by rw [hD]; simp only [dotV, Int.add_zero, Int.zero_mul, Int.zero_add]; exact js2 p u v u' q w v' w' r 0 0 1)
  simp only [dotV, Int.add_zero, Int.zero_mul, Int.zero_add] at hs0 hs1 hs2
  refine ⟨_, Y.eq, ?_⟩
  show [[nf s00 d0, nf s01 d0, nf s02 d0], [nf s10 d1, nf s11 d1, nf s12 d1], [nf s20 d2, nf s21 d2, nf s22 d2]] = _
  have N : ∀ {t d X : Int}, 0 < d → d * X = D * t → nf t d = nf X D := fun hd h => nf_eq hd h0 (by rw [Int.mul_comm, ← h, Int.mul_comm])
  rw [N Y.p0 hs0.1, N Y.p0 hs1.1, N Y.p0 hs2.1, N Y.p1 hs0.2.1, N Y.p1 hs1.2.1, N Y.p1 hs2.2.1, N Y.p2 hs0.2.2, N Y.p2 hs1.2.2, N Y.p2 hs2.2.2]
end
end Mine
-- K3
set_option maxHeartbeats 4000000
namespace Mine
open PySem PySem.W PyProof.Rows
theorem mat4ext {a0 a1 a2 a3 b0 b1 b2 b3 c0 c1 c2 c3 d0 d1 d2 d3 a0' a1' a2' a3' b0' b1' b2' b3' c0' c1' c2' c3' d0' d1' d2' d3' : Int}
    (h1 : a0 = a0') (h2 : a1 = a1') (h3 : a2 = a2') (h4 : a3 = a3') (h5 : b0 = b0') (h6 : b1 = b1') (h7 : b2 = b2') (h8 : b3 = b3') (h9 : c0 = c0') (h10 : c1 = c1') (h11 : c2 = c2') (h12 : c3 = c3') (h13 : d0 = d0') (h14 : d1 = d1') (h15 : d2 = d2') (h16 : d3 = d3') :
    [[a0, a1, a2, a3], [b0, b1, b2, b3], [c0, c1, c2, c3], [d0, d1, d2, d3]] = [[a0', a1', a2', a3'], [b0', b1', b2', b3'], [c0', c1', c2', c3'], [d0', d1', d2', d3']] := by
  subst h1 h2 h3 h4 h5 h6 h7 h8 h9 h10 h11 h12 h13 h14 h15 h16; rfl
section
variable {a0 a1 a2 a3 b0 b1 b2 b3 c0 c1 c2 c3 d0 d1 d2 d3 p0 p1 p2 p3 q0 q1 q2 q3 r0 r1 r2 r3 s0 s1 s2 s3 u : Int}
theorem mul4 : mulI [[a0, a1, a2, a3], [b0, b1, b2, b3], [c0, c1, c2, c3], [d0, d1, d2, d3]] (colsI 4 [[p0, p1, p2, p3], [q0, q1, q2, q3], [r0, r1, r2, r3], [s0, s1, s2, s3]]) =
    [[0 + a0 * p0 + a1 * q0 + a2 * r0 + a3 * s0, 0 + a0 * p1 + a1 * q1 + a2 * r1 + a3 * s1, 0 + a0 * p2 + a1 * q2 + a2 * r2 + a3 * s2, 0 + a0 * p3 + a1 * q3 + a2 * r3 + a3 * s3],
     [0 + b0 * p0 + b1 * q0 + b2 * r0 + b3 * s0, 0 + b0 * p1 + b1 * q1 + b2 * r1 + b3 * s1, 0 + b0 * p2 + b1 * q2 + b2 * r2 + b3 * s2, 0 + b0 * p3 + b1 * q3 + b2 * r3 + b3 * s3],
     [0 + c0 * p0 + c1 * q0 + c2 * r0 + c3 * s0, 0 + c0 * p1 + c1 * q1 + c2 * r1 + c3 * s1, 0 + c0 * p2 + c1 * q2 + c2 * r2 + c3 * s2, 0 + c0 * p3 + c1 * q3 + c2 * r3 + c3 * s3],
     [0 + d0 * p0 + d1 * q0 + d2 * r0 + d3 * s0, 0 + d0 * p1 + d1 * q1 + d2 * r1 + d3 * s1, 0 + d0 * p2 + d1 * q2 + d2 * r2 + d3 * s2, 0 + d0 * p3 + d1 * q3 + d2 * r3 + d3 * s3]] := rfl
theorem add4 : addM [[a0, a1, a2, a3], [b0, b1, b2, b3], [c0, c1, c2, c3], [d0, d1, d2, d3]] (U4.map (scaleR (0 - u))) =
    [[a0 + 1 * (0 - u), a1 + 0 * (0 - u), a2 + 0 * (0 - u), a3 + 0 * (0 - u)], [b0 + 0 * (0 - u), b1 + 1 * (0 - u), b2 + 0 * (0 - u), b3 + 0 * (0 - u)],
     [c0 + 0 * (0 - u), c1 + 0 * (0 - u), c2 + 1 * (0 - u), c3 + 0 * (0 - u)], [d0 + 0 * (0 - u), d1 + 0 * (0 - u), d2 + 0 * (0 - u), d3 + 1 * (0 - u)]] := rfl
theorem tr4 : trI [[a0, a1, a2, a3], [b0, b1, b2, b3], [c0, c1, c2, c3], [d0, d1, d2, d3]] 4 = 0 + a0 + b1 + c2 + d3 := rfl
end
/-- every entry of four rows of four within a bound -/
noncomputable def MB (B : Nat) (m : List (List Int)) : Prop := m.length ≤ 4 ∧ ∀ r ∈ m, r.length ≤ 4 ∧ Bd B r
theorem MB.toMid {B : Nat} {m : List (List Int)} (h : MB B m) (hB : B < 1073741824) : midM m = true := by
  unfold midM
  simp only [List.all_eq_true]
  intro r hr x hx
  have := (h.2 r hr).2 x hx
  unfold mid
  rw [Nat.blt_eq]; omega
theorem dotG_bd {B C : Nat} : ∀ (xs ys : List Int) (acc : Int), Bd B xs → Bd C ys → (dotG acc xs ys).natAbs ≤ acc.natAbs + xs.length * (B * C)
  | [], ys, acc, _, _ => by cases ys <;> simp [dotG]
  | x :: xs, [], acc, _, _ => by simp only [dotG]; omega
  | x :: xs, y :: ys, acc, hx, hy => by
    have ih := dotG_bd xs ys (acc + x * y) hx.tl hy.tl
    have h := bmul hx.hd hy.hd
    simp only [dotG, List.length_cons]
    rw [Nat.add_mul]
    omega
theorem MB.mul {B C : Nat} {m p : List (List Int)} (h : MB B m) (h' : MB C p) : MB (4 * (B * C)) (mulI m (colsI 4 p)) := by
  refine ⟨by unfold mulI; rw [List.length_map]; exact h.1, fun r hr => ?_⟩
  obtain ⟨x, hx, rfl⟩ := List.mem_map.mp hr
  refine ⟨by unfold colsI; simp, fun t ht => ?_⟩
  obtain ⟨cl, hcl, rfl⟩ := List.mem_map.mp ht
  unfold colsI at hcl
  obtain ⟨j, _, rfl⟩ := List.mem_map.mp hcl
  have hx' := h.2 x hx
  have hc : Bd C (colI j p) := fun t ht => by
    obtain ⟨q, hq, rfl⟩ := List.mem_map.mp ht
    have hq' := (h'.2 q hq).2
    cases e : q[j]? with
    | none => simp
    | some z => exact hq' z (List.mem_of_getElem? e)
  have hd := dotG_bd x (colI j p) 0 hx'.2 hc
  have hl : x.length * (B * C) ≤ 4 * (B * C) := Nat.mul_le_mul hx'.1 (Nat.le_refl _)
  unfold dotI
  simp only [Int.natAbs_zero] at hd
  omega
theorem MB.add {B C : Nat} : ∀ {m p : List (List Int)}, MB B m → MB C p → MB (B + C) (addM m p)
  | [], p, h, h' => by cases p <;> exact ⟨by simp [addM], fun r hr => nomatch hr⟩
  | x :: m, [], h, h' => ⟨by simp [addM], fun r hr => nomatch hr⟩
  | x :: m, y :: p, h, h' => by
    have ih := MB.add (m := m) (p := p) ⟨by have := h.1; simp at this; omega, fun r hr => h.2 r (.tail _ hr)⟩ ⟨by have := h'.1; simp at this; omega, fun r hr => h'.2 r (.tail _ hr)⟩
    have hr : ∀ (l k : List Int), Bd B l → Bd C k → (addR l k).length ≤ l.length ∧ Bd (B + C) (addR l k) := by
      intro l
      induction l with
      | nil => intro k _ _; cases k <;> exact ⟨by simp [addR], fun t ht => nomatch ht⟩
      | cons a l ihl =>
        intro k hl hk
        cases k with
        | nil => exact ⟨by simp [addR], fun t ht => nomatch ht⟩
        | cons b k =>
          obtain ⟨i1, i2⟩ := ihl k hl.tl hk.tl
          refine ⟨by simp only [addR, List.length_cons]; omega, ?_⟩
          exact Bd.cons (by have := hl.hd; have := hk.hd; omega) i2
    have hxy := hr x y (h.2 x (.head _)).2 (h'.2 y (.head _)).2
    have hx4 := (h.2 x (.head _)).1
    have hlen : (addM m p).length ≤ m.length := by
      have : ∀ (m p : List (List Int)), (addM m p).length ≤ m.length := by
        intro m; induction m with
        | nil => intro p; cases p <;> simp [addM]
        | cons a m ihm => intro p; cases p with
          | nil => simp [addM]
          | cons b p => simp only [addM, List.length_cons]; have := ihm p; omega
      exact this m p
    refine ⟨by have := h.1; simp only [addM, List.length_cons] at this ⊢; omega, fun r hr => ?_⟩
    rcases List.mem_cons.mp hr with rfl | hr
    · exact ⟨by omega, hxy.2⟩
    · exact ih.2 r hr
theorem scaleU_bd {u : Int} {C : Nat} (h : u.natAbs ≤ C) : MB C (U4.map (scaleR u)) := by
  refine ⟨by simp [U4], fun r hr => ?_⟩
  obtain ⟨q, hq, rfl⟩ := List.mem_map.mp hr
  simp only [U4, List.mem_cons, List.not_mem_nil, or_false] at hq
  rcases hq with rfl | rfl | rfl | rfl <;>
    (refine ⟨by simp [scaleR], fun t ht => ?_⟩
     simp only [scaleR, List.map_cons, List.map_nil, List.mem_cons, List.not_mem_nil, or_false] at ht
     rcases ht with rfl | rfl | rfl | rfl <;> simp <;> omega)
theorem charI_step {n k s : Nat} {U a p p' p'' : List (List Int)} {acc : List Int} {u : Int} (hs : 0 < s) (h1 : mulI a (colsI n p) = p') (m1 : midM p' = true) (ht : trI p' n = s * u) (hu : mid (0 - u) = true) (h2 : addM p' (U.map (scaleR (0 - u))) = p'') (m2 : midM p'' = true) :
    charI n U a (k + 1) s p acc = charI n U a k (s + 1) p'' (acc ++ [0 - u]) := by
  have hq : trI p' n / (s : Int) = u := by rw [ht]; exact Int.mul_ediv_cancel_left _ (by omega)
  show (fun p' : List (List Int) => match midM p' with
    | false => none
    | true => (fun u : Int => match (trI p' n == s * u) && mid (0 - u) with
      | false => none
      | true => (fun p'' : List (List Int) => match midM p'' with
        | false => none
        | true => charI n U a k (s + 1) p'' (acc ++ [0 - u])) (addM p' (U.map (scaleR (0 - u))))) (trI p' n / s)) (mulI a (colsI n p)) = _
  rw [h1]
  show (match midM p' with
    | false => none
    | true => (fun u : Int => match (trI p' n == s * u) && mid (0 - u) with
      | false => none
      | true => (fun p'' : List (List Int) => match midM p'' with
        | false => none
        | true => charI n U a k (s + 1) p'' (acc ++ [0 - u])) (addM p' (U.map (scaleR (0 - u))))) (trI p' n / s)) = _
  rw [m1, hq]
  show (match (trI p' n == s * u) && mid (0 - u) with
      | false => none
      | true => (fun p'' : List (List Int) => match midM p'' with
        | false => none
        | true => charI n U a k (s + 1) p'' (acc ++ [0 - u])) (addM p' (U.map (scaleR (0 - u))))) = _
  rw [hu, beq_iff_eq.mpr ht]
  show (match midM (addM p' (U.map (scaleR (0 - u)))) with
        | false => none
        | true => charI n U a k (s + 1) (addM p' (U.map (scaleR (0 - u)))) (acc ++ [0 - u])) = _
  rw [h2, m2]
noncomputable def whE (a b c d e f : Int) : Int := a * b * c + a * b * e + a * b * f + a * c * d + a * c * f + a * d * e + a * d * f + a * e * f + b * c * d + b * c * e + b * d * e + b * d * f + b * e * f + c * d * e + c * d * f + c * e * f
noncomputable def ap01 (a b c d e f : Int) : Int := b * c + b * e + b * f + c * d + c * f + d * e + d * f + e * f
noncomputable def ap02 (a b c d e f : Int) : Int := a * c + a * e + a * f + c * d + c * e + d * e + d * f + e * f
noncomputable def ap03 (a b c d e f : Int) : Int := a * b + a * d + a * f + b * d + b * e + d * e + d * f + e * f
noncomputable def ap12 (a b c d e f : Int) : Int := a * c + a * e + a * f + b * c + b * e + b * f + c * e + c * f
noncomputable def ap13 (a b c d e f : Int) : Int := a * b + a * d + a * f + b * c + b * d + b * f + c * d + c * f
noncomputable def ap23 (a b c d e f : Int) : Int := a * b + a * c + a * d + a * e + b * d + b * e + c * d + c * e
noncomputable def u1E (a b c d e f : Int) : Int := 2 * a + 2 * b + 2 * c + 2 * d + 2 * e + 2 * f
noncomputable def u2E (a b c d e f : Int) : Int := 0 - 3 * a * b - 3 * a * c - 3 * a * d - 3 * a * e - 4 * a * f - 3 * b * c - 3 * b * d - 4 * b * e - 3 * b * f - 4 * c * d - 3 * c * e - 3 * c * f - 3 * d * e - 3 * d * f - 3 * e * f
noncomputable def Q1E (a b c d e f : Int) : List (List Int) := [[0 - a - b - c - 2 * d - 2 * e - 2 * f, 0 - a, 0 - b, 0 - c], [0 - a, 0 - a - 2 * b - 2 * c - d - e - 2 * f, 0 - d, 0 - e], [0 - b, 0 - d, 0 - 2 * a - b - 2 * c - d - 2 * e - f, 0 - f], [0 - c, 0 - e, 0 - f, 0 - 2 * a - 2 * b - c - 2 * d - e - f]]
noncomputable def P2E (a b c d e f : Int) : List (List Int) := [[0 - 2 * a * b - 2 * a * c - 2 * a * d - 2 * a * e - 2 * a * f - 2 * b * c - 2 * b * d - 2 * b * e - 2 * b * f - 2 * c * d - 2 * c * e - 2 * c * f, a * b + a * c + a * d + a * e + 2 * a * f + b * d + c * e, a * b + a * d + b * c + b * d + 2 * b * e + b * f + c * f, a * c + a * e + b * c + b * f + 2 * c * d + c * e + c * f], [a * b + a * c + a * d + a * e + 2 * a * f + b * d + c * e, 0 - 2 * a * b - 2 * a * c - 2 * a * d - 2 * a * e - 2 * a * f - 2 * b * d - 2 * b * e - 2 * c * d - 2 * c * e - 2 * d * e - 2 * d * f - 2 * e * f, a * b + a * d + b * d + 2 * c * d + d * e + d * f + e * f, a * c + a * e + 2 * b * e + c * e + d * e + d * f + e * f], [a * b + a * d + b * c + b * d + 2 * b * e + b * f + c * f, a * b + a * d + b * d + 2 * c * d + d * e + d * f + e * f, 0 - 2 * a * b - 2 * a * d - 2 * a * f - 2 * b * c - 2 * b * d - 2 * b * e - 2 * b * f - 2 * c * d - 2 * c * f - 2 * d * e - 2 * d * f - 2 * e * f, 2 * a * f + b * c + b * f + c * f + d * e + d * f + e * f], [a * c + a * e + b * c + b * f + 2 * c * d + c * e + c * f, a * c + a * e + 2 * b * e + c * e + d * e + d * f + e * f, 2 * a * f + b * c + b * f + c * f + d * e + d * f + e * f, 0 - 2 * a * c - 2 * a * e - 2 * a * f - 2 * b * c - 2 * b * e - 2 * b * f - 2 * c * d - 2 * c * e - 2 * c * f - 2 * d * e - 2 * d * f - 2 * e * f]]
noncomputable def Q2E (a b c d e f : Int) : List (List Int) := [[a * b + a * c + a * d + a * e + 2 * a * f + b * c + b * d + 2 * b * e + b * f + 2 * c * d + c * e + c * f + 3 * d * e + 3 * d * f + 3 * e * f, a * b + a * c + a * d + a * e + 2 * a * f + b * d + c * e, a * b + a * d + b * c + b * d + 2 * b * e + b * f + c * f, a * c + a * e + b * c + b * f + 2 * c * d + c * e + c * f], [a * b + a * c + a * d + a * e + 2 * a * f + b * d + c * e, a * b + a * c + a * d + a * e + 2 * a * f + 3 * b * c + b * d + 2 * b * e + 3 * b * f + 2 * c * d + c * e + 3 * c * f + d * e + d * f + e * f, a * b + a * d + b * d + 2 * c * d + d * e + d * f + e * f, a * c + a * e + 2 * b * e + c * e + d * e + d * f + e * f], [a * b + a * d + b * c + b * d + 2 * b * e + b * f + c * f, a * b + a * d + b * d + 2 * c * d + d * e + d * f + e * f, a * b + 3 * a * c + a * d + 3 * a * e + 2 * a * f + b * c + b * d + 2 * b * e + b * f + 2 * c * d + 3 * c * e + c * f + d * e + d * f + e * f, 2 * a * f + b * c + b * f + c * f + d * e + d * f + e * f], [a * c + a * e + b * c + b * f + 2 * c * d + c * e + c * f, a * c + a * e + 2 * b * e + c * e + d * e + d * f + e * f, 2 * a * f + b * c + b * f + c * f + d * e + d * f + e * f, 3 * a * b + a * c + 3 * a * d + a * e + 2 * a * f + b * c + 3 * b * d + 2 * b * e + b * f + 2 * c * d + c * e + c * f + d * e + d * f + e * f]]
noncomputable def P3E (a b c d e f : Int) : List (List Int) := [[3 * whE a b c d e f, 0 - whE a b c d e f, 0 - whE a b c d e f, 0 - whE a b c d e f], [0 - whE a b c d e f, 3 * whE a b c d e f, 0 - whE a b c d e f, 0 - whE a b c d e f], [0 - whE a b c d e f, 0 - whE a b c d e f, 3 * whE a b c d e f, 0 - whE a b c d e f], [0 - whE a b c d e f, 0 - whE a b c d e f, 0 - whE a b c d e f, 3 * whE a b c d e f]]
noncomputable def Q3E (a b c d e f : Int) : List (List Int) := [[0 - whE a b c d e f, 0 - whE a b c d e f, 0 - whE a b c d e f, 0 - whE a b c d e f], [0 - whE a b c d e f, 0 - whE a b c d e f, 0 - whE a b c d e f, 0 - whE a b c d e f], [0 - whE a b c d e f, 0 - whE a b c d e f, 0 - whE a b c d e f, 0 - whE a b c d e f], [0 - whE a b c d e f, 0 - whE a b c d e f, 0 - whE a b c d e f, 0 - whE a b c d e f]]
section
variable (a b c d e f : Int)
theorem ch_m1 : mulI (M4 a b c d e f) (colsI 4 U4) = M4 a b c d e f := by
  unfold M4 U4; rw [mul4]; refine mat4ext ?_ ?_ ?_ ?_ ?_ ?_ ?_ ?_ ?_ ?_ ?_ ?_ ?_ ?_ ?_ ?_ <;> grind
theorem ch_t1 : trI (M4 a b c d e f) 4 = ((1 : Nat) : Int) * u1E a b c d e f := by
  unfold M4 u1E; rw [tr4]; grind
theorem ch_a1 : addM (M4 a b c d e f) (U4.map (scaleR (0 - u1E a b c d e f))) = Q1E a b c d e f := by
  unfold M4 Q1E; rw [add4]; unfold u1E; refine mat4ext ?_ ?_ ?_ ?_ ?_ ?_ ?_ ?_ ?_ ?_ ?_ ?_ ?_ ?_ ?_ ?_ <;> grind
theorem ch_m2 : mulI (M4 a b c d e f) (colsI 4 (Q1E a b c d e f)) = P2E a b c d e f := by
  unfold M4 Q1E P2E; rw [mul4]; refine mat4ext ?_ ?_ ?_ ?_ ?_ ?_ ?_ ?_ ?_ ?_ ?_ ?_ ?_ ?_ ?_ ?_ <;> grind
theorem ch_t2 : trI (P2E a b c d e f) 4 = ((2 : Nat) : Int) * u2E a b c d e f := by
  unfold P2E u2E; rw [tr4]; grind
theorem ch_a2 : addM (P2E a b c d e f) (U4.map (scaleR (0 - u2E a b c d e f))) = Q2E a b c d e f := by
  unfold P2E Q2E; rw [add4]; unfold u2E; refine mat4ext ?_ ?_ ?_ ?_ ?_ ?_ ?_ ?_ ?_ ?_ ?_ ?_ ?_ ?_ ?_ ?_ <;> grind
theorem ch_m3 : mulI (M4 a b c d e f) (colsI 4 (Q2E a b c d e f)) = P3E a b c d e f := by
  unfold M4 Q2E P3E; rw [mul4]; unfold whE; refine mat4ext ?_ ?_ ?_ ?_ ?_ ?_ ?_ ?_ ?_ ?_ ?_ ?_ ?_ ?_ ?_ ?_ <;> grind
theorem ch_t3 : trI (P3E a b c d e f) 4 = ((3 : Nat) : Int) * (4 * whE a b c d e f) := by
  unfold P3E; rw [tr4]; grind
theorem ch_a3 : addM (P3E a b c d e f) (U4.map (scaleR (0 - 4 * whE a b c d e f))) = Q3E a b c d e f := by
  unfold P3E Q3E; rw [add4]; refine mat4ext ?_ ?_ ?_ ?_ ?_ ?_ ?_ ?_ ?_ ?_ ?_ ?_ ?_ ?_ ?_ ?_ <;> grind
theorem ch_m4 : mulI (M4 a b c d e f) (colsI 4 (Q3E a b c d e f)) = [[0, 0, 0, 0], [0, 0, 0, 0], [0, 0, 0, 0], [0, 0, 0, 0]] := by
  unfold M4 Q3E; rw [mul4]; refine mat4ext ?_ ?_ ?_ ?_ ?_ ?_ ?_ ?_ ?_ ?_ ?_ ?_ ?_ ?_ ?_ ?_ <;> grind
theorem ch_sum : 0 - u2E a b c d e f = ap01 a b c d e f + (ap02 a b c d e f + (ap03 a b c d e f + (ap12 a b c d e f + (ap13 a b c d e f + (ap23 a b c d e f + 0))))) := by
  unfold u2E ap01 ap02 ap03 ap12 ap13 ap23; grind
end
theorem char4 {a b c d e f : Int} (hA : MB 10 (M4 a b c d e f)) (hu1 : (u1E a b c d e f).natAbs ≤ 100) (hu2 : (u2E a b c d e f).natAbs ≤ 1000) (hw : (whE a b c d e f).natAbs ≤ 1000) :
    charI 4 U4 (M4 a b c d e f) 4 1 U4 [1] = some [1, 0 - u1E a b c d e f, 0 - u2E a b c d e f, 0 - 4 * whE a b c d e f, 0 - 0] := by
  have b1 : MB 110 (Q1E a b c d e f) := by
    have := hA.add (scaleU_bd (u := 0 - u1E a b c d e f) (C := 100) (by omega))
    rwa [ch_a1] at this
  have b2 : MB 4400 (P2E a b c d e f) := by
    have := hA.mul b1
    rwa [ch_m2] at this
  have b2' : MB 5400 (Q2E a b c d e f) := by
    have := b2.add (scaleU_bd (u := 0 - u2E a b c d e f) (C := 1000) (by omega))
    rwa [ch_a2] at this
  have b3 : MB 216000 (P3E a b c d e f) := by
    have := hA.mul b2'
    rwa [ch_m3] at this
  have b3' : MB 220000 (Q3E a b c d e f) := by
    have := b3.add (scaleU_bd (u := 0 - 4 * whE a b c d e f) (C := 4000) (by omega))
    rwa [ch_a3] at this
  have md : ∀ {x : Int}, x.natAbs ≤ 100000 → mid x = true := fun h => by unfold mid; rw [Nat.blt_eq]; omega
  rw [charI_step (k := 3) (s := 1) (by omega) (ch_m1 a b c d e f) (hA.toMid (by omega)) (ch_t1 a b c d e f) (md (by omega)) (ch_a1 a b c d e f) (b1.toMid (by omega)),
    charI_step (k := 2) (s := 1 + 1) (by omega) (ch_m2 a b c d e f) (b2.toMid (by omega)) (ch_t2 a b c d e f) (md (by omega)) (ch_a2 a b c d e f) (b2'.toMid (by omega)),
    charI_step (k := 1) (s := 1 + 1 + 1) (by omega) (ch_m3 a b c d e f) (b3.toMid (by omega)) (ch_t3 a b c d e f) (md (by omega)) (ch_a3 a b c d e f) (b3'.toMid (by omega)),
    charI_step (k := 0) (s := 1 + 1 + 1 + 1) (u := 0) (by omega) (ch_m4 a b c d e f) rfl rfl rfl rfl rfl]
  rfl
end Mine
-- K4
set_option maxHeartbeats 4000000
namespace Mine
open PySem PySem.W PyProof.Rows
structure Lo (a b c d e f : Int) : Prop where
  a : 1 ≤ a
  b : 0 ≤ b
  c : 0 ≤ c
  d : 1 ≤ d
  e : 0 ≤ e
  f : 1 ≤ f
structure Up (a b c d e f : Int) : Prop where
  a : a ≤ 3
  b : b ≤ 2
  c : c ≤ 2
  d : d ≤ 3
  e : e ≤ 2
  f : f ≤ 3
theorem nn2 {x y : Int} (hx : 0 ≤ x) (hy : 0 ≤ y) : 0 ≤ x * y := Int.mul_nonneg hx hy
theorem nn3 {x y z : Int} (hx : 0 ≤ x) (hy : 0 ≤ y) (hz : 0 ≤ z) : 0 ≤ x * y * z := Int.mul_nonneg (Int.mul_nonneg hx hy) hz
theorem pp2 {x y : Int} (hx : 1 ≤ x) (hy : 1 ≤ y) : 0 < x * y := Int.mul_pos (by omega) (by omega)
theorem pp3 {x y z : Int} (hx : 1 ≤ x) (hy : 1 ≤ y) (hz : 1 ≤ z) : 0 < x * y * z := Int.mul_pos (Int.mul_pos (by omega) (by omega)) (by omega)
theorem ub2 {x y : Int} (hx : 0 ≤ x) (hx' : x ≤ 3) (hy : 0 ≤ y) (hy' : y ≤ 3) : x * y ≤ 9 := by
  have := bmul (x := x) (y := y) (B := 3) (C := 3) (by omega) (by omega)
  omega
theorem ub3 {x y z : Int} (hx : 0 ≤ x) (hx' : x ≤ 3) (hy : 0 ≤ y) (hy' : y ≤ 3) (hz : 0 ≤ z) (hz' : z ≤ 3) : x * y * z ≤ 27 := by
  have := bmul (bmul (x := x) (y := y) (B := 3) (C := 3) (by omega) (by omega)) (y := z) (C := 3) (by omega)
  omega
theorem t3 {x y z : Int} (x0 : 0 ≤ x) (x3 : x ≤ 3) (y0 : 0 ≤ y) (y3 : y ≤ 3) (z0 : 0 ≤ z) (z3 : z ≤ 3) : (0 + x + y + z).natAbs ≤ 10 := by omega
theorem t1 {x : Int} (x0 : 0 ≤ x) (x3 : x ≤ 3) : (0 - x).natAbs ≤ 10 := by omega
theorem t4 {x mo : Int} (h : x.natAbs ≤ 10) (m0 : 1 ≤ mo) (m3 : mo ≤ 3) : (x + mo).natAbs ≤ 20 := by omega
theorem t2 {x mo : Int} (h : x.natAbs ≤ 10) (m0 : 1 ≤ mo) (m3 : mo ≤ 3) : (x - mo).natAbs ≤ 20 := by omega
theorem pz {x y z : Int} (hx : 1 ≤ x) (hy : 0 ≤ y) (hz : 0 ≤ z) : 0 < 0 + x + y + z := by omega
theorem pz' {x y z : Int} (hx : 0 ≤ x) (hy : 1 ≤ y) (hz : 0 ≤ z) : 0 < 0 + x + y + z := by omega
theorem pm {x mo : Int} (hx : 0 < x) (hm : 1 ≤ mo) : 0 < x + mo := by omega
theorem one0 {x : Int} (h : 1 ≤ x) : 0 ≤ x := by omega
theorem two3 {x : Int} (h : x ≤ 2) : x ≤ 3 := by omega
theorem na {x : Int} {B : Nat} (h : 0 < x) (h' : x ≤ B) : x.natAbs ≤ B := by omega
theorem gem {x mo : Int} (h : 1 ≤ x) (m1 : 1 ≤ mo) : 1 ≤ x + mo := by omega
theorem gem0 {x mo : Int} (h : 0 ≤ x) (m1 : 1 ≤ mo) : 0 ≤ x + mo := by omega
theorem s8le {x1 x2 x3 x4 x5 x6 x7 x8 : Int} (h1 : x1 ≤ 9) (h2 : x2 ≤ 9) (h3 : x3 ≤ 9) (h4 : x4 ≤ 9) (h5 : x5 ≤ 9) (h6 : x6 ≤ 9) (h7 : x7 ≤ 9) (h8 : x8 ≤ 9) : x1 + x2 + x3 + x4 + x5 + x6 + x7 + x8 ≤ 72 := by omega
section
variable {a b c d e f : Int} (H : Lo a b c d e f) (K : Up a b c d e f)
include H K
theorem n00 : (0 + a + b + c).natAbs ≤ 10 := t3 (one0 H.a) K.a H.b (two3 K.b) H.c (two3 K.c)
theorem n11 : (0 + a + d + e).natAbs ≤ 10 := t3 (one0 H.a) K.a (one0 H.d) K.d H.e (two3 K.e)
theorem n22 : (0 + b + d + f).natAbs ≤ 10 := t3 H.b (two3 K.b) (one0 H.d) K.d (one0 H.f) K.f
theorem n33 : (0 + c + e + f).natAbs ≤ 10 := t3 H.c (two3 K.c) H.e (two3 K.e) (one0 H.f) K.f
theorem na_ : (0 - a).natAbs ≤ 10 := t1 (one0 H.a) K.a
theorem nb_ : (0 - b).natAbs ≤ 10 := t1 H.b (two3 K.b)
theorem nc_ : (0 - c).natAbs ≤ 10 := t1 H.c (two3 K.c)
theorem nd_ : (0 - d).natAbs ≤ 10 := t1 (one0 H.d) K.d
theorem ne_ : (0 - e).natAbs ≤ 10 := t1 H.e (two3 K.e)
theorem nf_ : (0 - f).natAbs ≤ 10 := t1 (one0 H.f) K.f
omit K
theorem p00 : 0 < 0 + a + b + c := pz H.a H.b H.c
theorem p11 : 0 < 0 + a + d + e := pz H.a (one0 H.d) H.e
theorem p22 : 0 < 0 + b + d + f := pz' H.b H.d (one0 H.f)
end
theorem ld03 (a b c d e f : Int) : (0 + a + d + e) * (0 + b + d + f) - (0 - d) * (0 - d) = ap03 a b c d e f := by unfold ap03; grind
theorem ld13 (a b c d e f : Int) : (0 + a + b + c) * (0 + b + d + f) - (0 - b) * (0 - b) = ap13 a b c d e f := by unfold ap13; grind
theorem ld23 (a b c d e f : Int) : (0 + a + b + c) * (0 + a + d + e) - (0 - a) * (0 - a) = ap23 a b c d e f := by unfold ap23; grind
theorem pos_of {x y : Int} (h : x = y) (p : 0 < y) : 0 < x := by rw [h]; exact p
theorem whE_pos {a b c d e f : Int} (H : Lo a b c d e f) : 0 < whE a b c d e f := by
  obtain ⟨ha, hb, hc, hd, he, hf⟩ := H
  have hb0 : 0 < a * d * f := pp3 ha hd hf
  have h0 : 0 ≤ a * b * c := nn3 (by omega) (by omega) (by omega)
  have h1 : 0 ≤ a * b * e := nn3 (by omega) (by omega) (by omega)
  have h2 : 0 ≤ a * b * f := nn3 (by omega) (by omega) (by omega)
  have h3 : 0 ≤ a * c * d := nn3 (by omega) (by omega) (by omega)
  have h4 : 0 ≤ a * c * f := nn3 (by omega) (by omega) (by omega)
  have h5 : 0 ≤ a * d * e := nn3 (by omega) (by omega) (by omega)
  have h7 : 0 ≤ a * e * f := nn3 (by omega) (by omega) (by omega)
  have h8 : 0 ≤ b * c * d := nn3 (by omega) (by omega) (by omega)
  have h9 : 0 ≤ b * c * e := nn3 (by omega) (by omega) (by omega)
  have h10 : 0 ≤ b * d * e := nn3 (by omega) (by omega) (by omega)
  have h11 : 0 ≤ b * d * f := nn3 (by omega) (by omega) (by omega)
  have h12 : 0 ≤ b * e * f := nn3 (by omega) (by omega) (by omega)
  have h13 : 0 ≤ c * d * e := nn3 (by omega) (by omega) (by omega)
  have h14 : 0 ≤ c * d * f := nn3 (by omega) (by omega) (by omega)
  have h15 : 0 ≤ c * e * f := nn3 (by omega) (by omega) (by omega)
  unfold whE; omega
theorem whE_le {a b c d e f : Int} (H : Lo a b c d e f) (K : Up a b c d e f) : whE a b c d e f ≤ 432 := by
  obtain ⟨ha, hb, hc, hd, he, hf⟩ := H
  obtain ⟨ka, kb, kc, kd, ke, kf⟩ := K
  have h0 : a * b * c ≤ 27 := ub3 (by omega) (by omega) (by omega) (by omega) (by omega) (by omega)
  have h1 : a * b * e ≤ 27 := ub3 (by omega) (by omega) (by omega) (by omega) (by omega) (by omega)
  have h2 : a * b * f ≤ 27 := ub3 (by omega) (by omega) (by omega) (by omega) (by omega) (by omega)
  have h3 : a * c * d ≤ 27 := ub3 (by omega) (by omega) (by omega) (by omega) (by omega) (by omega)
  have h4 : a * c * f ≤ 27 := ub3 (by omega) (by omega) (by omega) (by omega) (by omega) (by omega)
  have h5 : a * d * e ≤ 27 := ub3 (by omega) (by omega) (by omega) (by omega) (by omega) (by omega)
  have h6 : a * d * f ≤ 27 := ub3 (by omega) (by omega) (by omega) (by omega) (by omega) (by omega)
  have h7 : a * e * f ≤ 27 := ub3 (by omega) (by omega) (by omega) (by omega) (by omega) (by omega)
  have h8 : b * c * d ≤ 27 := ub3 (by omega) (by omega) (by omega) (by omega) (by omega) (by omega)
  have h9 : b * c * e ≤ 27 := ub3 (by omega) (by omega) (by omega) (by omega) (by omega) (by omega)
  have h10 : b * d * e ≤ 27 := ub3 (by omega) (by omega) (by omega) (by omega) (by omega) (by omega)
  have h11 : b * d * f ≤ 27 := ub3 (by omega) (by omega) (by omega) (by omega) (by omega) (by omega)
  have h12 : b * e * f ≤ 27 := ub3 (by omega) (by omega) (by omega) (by omega) (by omega) (by omega)
  have h13 : c * d * e ≤ 27 := ub3 (by omega) (by omega) (by omega) (by omega) (by omega) (by omega)
  have h14 : c * d * f ≤ 27 := ub3 (by omega) (by omega) (by omega) (by omega) (by omega) (by omega)
  have h15 : c * e * f ≤ 27 := ub3 (by omega) (by omega) (by omega) (by omega) (by omega) (by omega)
  unfold whE; omega
theorem ap01_pos {a b c d e f : Int} (H : Lo a b c d e f) : 0 < ap01 a b c d e f := by
  obtain ⟨ha, hb, hc, hd, he, hf⟩ := H
  have hb0 : 0 < d * f := pp2 hd hf
  have h0 : 0 ≤ b * c := nn2 (by omega) (by omega)
  have h1 : 0 ≤ b * e := nn2 (by omega) (by omega)
  have h2 : 0 ≤ b * f := nn2 (by omega) (by omega)
  have h3 : 0 ≤ c * d := nn2 (by omega) (by omega)
  have h4 : 0 ≤ c * f := nn2 (by omega) (by omega)
  have h5 : 0 ≤ d * e := nn2 (by omega) (by omega)
  have h7 : 0 ≤ e * f := nn2 (by omega) (by omega)
  unfold ap01; omega
theorem ap01_le {a b c d e f : Int} (H : Lo a b c d e f) (K : Up a b c d e f) : ap01 a b c d e f ≤ 72 :=
  s8le (ub2 H.b (two3 K.b) H.c (two3 K.c)) (ub2 H.b (two3 K.b) H.e (two3 K.e)) (ub2 H.b (two3 K.b) (one0 H.f) K.f) (ub2 H.c (two3 K.c) (one0 H.d) K.d) (ub2 H.c (two3 K.c) (one0 H.f) K.f) (ub2 (one0 H.d) K.d H.e (two3 K.e)) (ub2 (one0 H.d) K.d (one0 H.f) K.f) (ub2 H.e (two3 K.e) (one0 H.f) K.f)
theorem ap02_pos {a b c d e f : Int} (H : Lo a b c d e f) : 0 < ap02 a b c d e f := by
  obtain ⟨ha, hb, hc, hd, he, hf⟩ := H
  have hb0 : 0 < a * f := pp2 ha hf
  have h0 : 0 ≤ a * c := nn2 (by omega) (by omega)
  have h1 : 0 ≤ a * e := nn2 (by omega) (by omega)
  have h3 : 0 ≤ c * d := nn2 (by omega) (by omega)
  have h4 : 0 ≤ c * e := nn2 (by omega) (by omega)
  have h5 : 0 ≤ d * e := nn2 (by omega) (by omega)
  have h6 : 0 ≤ d * f := nn2 (by omega) (by omega)
  have h7 : 0 ≤ e * f := nn2 (by omega) (by omega)
  unfold ap02; omega
theorem ap02_le {a b c d e f : Int} (H : Lo a b c d e f) (K : Up a b c d e f) : ap02 a b c d e f ≤ 72 :=
  s8le (ub2 (one0 H.a) K.a H.c (two3 K.c)) (ub2 (one0 H.a) K.a H.e (two3 K.e)) (ub2 (one0 H.a) K.a (one0 H.f) K.f) (ub2 H.c (two3 K.c) (one0 H.d) K.d) (ub2 H.c (two3 K.c) H.e (two3 K.e)) (ub2 (one0 H.d) K.d H.e (two3 K.e)) (ub2 (one0 H.d) K.d (one0 H.f) K.f) (ub2 H.e (two3 K.e) (one0 H.f) K.f)
theorem ap03_pos {a b c d e f : Int} (H : Lo a b c d e f) : 0 < ap03 a b c d e f := by
  obtain ⟨ha, hb, hc, hd, he, hf⟩ := H
  have hb0 : 0 < a * d := pp2 ha hd
  have h0 : 0 ≤ a * b := nn2 (by omega) (by omega)
  have h2 : 0 ≤ a * f := nn2 (by omega) (by omega)
  have h3 : 0 ≤ b * d := nn2 (by omega) (by omega)
  have h4 : 0 ≤ b * e := nn2 (by omega) (by omega)
  have h5 : 0 ≤ d * e := nn2 (by omega) (by omega)
  have h6 : 0 ≤ d * f := nn2 (by omega) (by omega)
  have h7 : 0 ≤ e * f := nn2 (by omega) (by omega)
  unfold ap03; omega
theorem ap03_le {a b c d e f : Int} (H : Lo a b c d e f) (K : Up a b c d e f) : ap03 a b c d e f ≤ 72 :=
  s8le (ub2 (one0 H.a) K.a H.b (two3 K.b)) (ub2 (one0 H.a) K.a (one0 H.d) K.d) (ub2 (one0 H.a) K.a (one0 H.f) K.f) (ub2 H.b (two3 K.b) (one0 H.d) K.d) (ub2 H.b (two3 K.b) H.e (two3 K.e)) (ub2 (one0 H.d) K.d H.e (two3 K.e)) (ub2 (one0 H.d) K.d (one0 H.f) K.f) (ub2 H.e (two3 K.e) (one0 H.f) K.f)
theorem ap12_pos {a b c d e f : Int} (H : Lo a b c d e f) : 0 < ap12 a b c d e f := by
  obtain ⟨ha, hb, hc, hd, he, hf⟩ := H
  have hb0 : 0 < a * f := pp2 ha hf
  have h0 : 0 ≤ a * c := nn2 (by omega) (by omega)
  have h1 : 0 ≤ a * e := nn2 (by omega) (by omega)
  have h3 : 0 ≤ b * c := nn2 (by omega) (by omega)
  have h4 : 0 ≤ b * e := nn2 (by omega) (by omega)
  have h5 : 0 ≤ b * f := nn2 (by omega) (by omega)
  have h6 : 0 ≤ c * e := nn2 (by omega) (by omega)
  have h7 : 0 ≤ c * f := nn2 (by omega) (by omega)
  unfold ap12; omega
theorem ap12_le {a b c d e f : Int} (H : Lo a b c d e f) (K : Up a b c d e f) : ap12 a b c d e f ≤ 72 :=
  s8le (ub2 (one0 H.a) K.a H.c (two3 K.c)) (ub2 (one0 H.a) K.a H.e (two3 K.e)) (ub2 (one0 H.a) K.a (one0 H.f) K.f) (ub2 H.b (two3 K.b) H.c (two3 K.c)) (ub2 H.b (two3 K.b) H.e (two3 K.e)) (ub2 H.b (two3 K.b) (one0 H.f) K.f) (ub2 H.c (two3 K.c) H.e (two3 K.e)) (ub2 H.c (two3 K.c) (one0 H.f) K.f)
theorem ap13_pos {a b c d e f : Int} (H : Lo a b c d e f) : 0 < ap13 a b c d e f := by
  obtain ⟨ha, hb, hc, hd, he, hf⟩ := H
  have hb0 : 0 < a * d := pp2 ha hd
  have h0 : 0 ≤ a * b := nn2 (by omega) (by omega)
  have h2 : 0 ≤ a * f := nn2 (by omega) (by omega)
  have h3 : 0 ≤ b * c := nn2 (by omega) (by omega)
  have h4 : 0 ≤ b * d := nn2 (by omega) (by omega)
  have h5 : 0 ≤ b * f := nn2 (by omega) (by omega)
  have h6 : 0 ≤ c * d := nn2 (by omega) (by omega)
  have h7 : 0 ≤ c * f := nn2 (by omega) (by omega)
  unfold ap13; omega
theorem ap13_le {a b c d e f : Int} (H : Lo a b c d e f) (K : Up a b c d e f) : ap13 a b c d e f ≤ 72 :=
  s8le (ub2 (one0 H.a) K.a H.b (two3 K.b)) (ub2 (one0 H.a) K.a (one0 H.d) K.d) (ub2 (one0 H.a) K.a (one0 H.f) K.f) (ub2 H.b (two3 K.b) H.c (two3 K.c)) (ub2 H.b (two3 K.b) (one0 H.d) K.d) (ub2 H.b (two3 K.b) (one0 H.f) K.f) (ub2 H.c (two3 K.c) (one0 H.d) K.d) (ub2 H.c (two3 K.c) (one0 H.f) K.f)
theorem ap23_pos {a b c d e f : Int} (H : Lo a b c d e f) : 0 < ap23 a b c d e f := by
  obtain ⟨ha, hb, hc, hd, he, hf⟩ := H
  have hb0 : 0 < a * d := pp2 ha hd
  have h0 : 0 ≤ a * b := nn2 (by omega) (by omega)
  have h1 : 0 ≤ a * c := nn2 (by omega) (by omega)
  have h3 : 0 ≤ a * e := nn2 (by omega) (by omega)
  have h4 : 0 ≤ b * d := nn2 (by omega) (by omega)
  have h5 : 0 ≤ b * e := nn2 (by omega) (by omega)
  have h6 : 0 ≤ c * d := nn2 (by omega) (by omega)
  have h7 : 0 ≤ c * e := nn2 (by omega) (by omega)
  unfold ap23; omega
theorem ap23_le {a b c d e f : Int} (H : Lo a b c d e f) (K : Up a b c d e f) : ap23 a b c d e f ≤ 72 :=
  s8le (ub2 (one0 H.a) K.a H.b (two3 K.b)) (ub2 (one0 H.a) K.a H.c (two3 K.c)) (ub2 (one0 H.a) K.a (one0 H.d) K.d) (ub2 (one0 H.a) K.a H.e (two3 K.e)) (ub2 H.b (two3 K.b) (one0 H.d) K.d) (ub2 H.b (two3 K.b) H.e (two3 K.e)) (ub2 H.c (two3 K.c) (one0 H.d) K.d) (ub2 H.c (two3 K.c) H.e (two3 K.e))
theorem wh_eq (a b c d e f : Int) : (ways4.map (worthI (ls4 a b c d e f))).sum = whE a b c d e f := by
  show 1 * a * b * c + (1 * a * c * d + (1 * b * c * d + (1 * a * b * e + (1 * b * c * e + (1 * a * d * e + (1 * b * d * e + (1 * c * d * e + (1 * a * b * f + (1 * a * c * f + (1 * a * d * f + (1 * b * d * f + (1 * c * d * f + (1 * a * e * f + (1 * b * e * f + (1 * c * e * f + (0)))))))))))))))) = _
  unfold whE; grind
theorem part0 (a b c d e f : Int) : ((ways4.filter (hasI 0)).map (worthI (ls4 a b c d e f))).sum = a * ap01 a b c d e f := by
  have h : ways4.filter (hasI 0) = [[0, 1, 2], [0, 2, 3], [0, 1, 4], [0, 3, 4], [0, 1, 5], [0, 2, 5], [0, 3, 5], [0, 4, 5]] := by decide
  rw [h]
  show 1 * a * b * c + (1 * a * c * d + (1 * a * b * e + (1 * a * d * e + (1 * a * b * f + (1 * a * c * f + (1 * a * d * f + (1 * a * e * f + (0)))))))) = _
  unfold ap01; grind
theorem part1 (a b c d e f : Int) : ((ways4.filter (hasI 1)).map (worthI (ls4 a b c d e f))).sum = b * ap02 a b c d e f := by
  have h : ways4.filter (hasI 1) = [[0, 1, 2], [1, 2, 3], [0, 1, 4], [1, 2, 4], [1, 3, 4], [0, 1, 5], [1, 3, 5], [1, 4, 5]] := by decide
  rw [h]
  show 1 * a * b * c + (1 * b * c * d + (1 * a * b * e + (1 * b * c * e + (1 * b * d * e + (1 * a * b * f + (1 * b * d * f + (1 * b * e * f + (0)))))))) = _
  unfold ap02; grind
theorem part2 (a b c d e f : Int) : ((ways4.filter (hasI 2)).map (worthI (ls4 a b c d e f))).sum = c * ap03 a b c d e f := by
  have h : ways4.filter (hasI 2) = [[0, 1, 2], [0, 2, 3], [1, 2, 3], [1, 2, 4], [2, 3, 4], [0, 2, 5], [2, 3, 5], [2, 4, 5]] := by decide
  rw [h]
  show 1 * a * b * c + (1 * a * c * d + (1 * b * c * d + (1 * b * c * e + (1 * c * d * e + (1 * a * c * f + (1 * c * d * f + (1 * c * e * f + (0)))))))) = _
  unfold ap03; grind
theorem part3 (a b c d e f : Int) : ((ways4.filter (hasI 3)).map (worthI (ls4 a b c d e f))).sum = d * ap12 a b c d e f := by
  have h : ways4.filter (hasI 3) = [[0, 2, 3], [1, 2, 3], [0, 3, 4], [1, 3, 4], [2, 3, 4], [0, 3, 5], [1, 3, 5], [2, 3, 5]] := by decide
  rw [h]
  show 1 * a * c * d + (1 * b * c * d + (1 * a * d * e + (1 * b * d * e + (1 * c * d * e + (1 * a * d * f + (1 * b * d * f + (1 * c * d * f + (0)))))))) = _
  unfold ap12; grind
theorem part4 (a b c d e f : Int) : ((ways4.filter (hasI 4)).map (worthI (ls4 a b c d e f))).sum = e * ap13 a b c d e f := by
  have h : ways4.filter (hasI 4) = [[0, 1, 4], [1, 2, 4], [0, 3, 4], [1, 3, 4], [2, 3, 4], [0, 4, 5], [1, 4, 5], [2, 4, 5]] := by decide
  rw [h]
  show 1 * a * b * e + (1 * b * c * e + (1 * a * d * e + (1 * b * d * e + (1 * c * d * e + (1 * a * e * f + (1 * b * e * f + (1 * c * e * f + (0)))))))) = _
  unfold ap13; grind
theorem part5 (a b c d e f : Int) : ((ways4.filter (hasI 5)).map (worthI (ls4 a b c d e f))).sum = f * ap23 a b c d e f := by
  have h : ways4.filter (hasI 5) = [[0, 1, 5], [0, 2, 5], [0, 3, 5], [1, 3, 5], [2, 3, 5], [0, 4, 5], [1, 4, 5], [2, 4, 5]] := by decide
  rw [h]
  show 1 * a * b * f + (1 * a * c * f + (1 * a * d * f + (1 * b * d * f + (1 * c * d * f + (1 * a * e * f + (1 * b * e * f + (1 * c * e * f + (0)))))))) = _
  unfold ap23; grind
section
variable {a b c d e f : Int} (H : Lo a b c d e f)
include H
theorem apO01 (K : Up a b c d e f) : apO 4 (M4 a b c d e f) (0, 1, a) = some (ap01 a b c d e f) := by
  show detP [[0 + b + d + f, 0 - f], [0 - f, 0 + c + e + f]] = _
  exact det2_ok (p := 0 + b + d + f) (u := 0 - f) (p22 H) (by unfold ap01; clear H K; grind) (ap01_pos H) (w20 (n33 H K)) (w20 (nf_ H K))
theorem apO02 (K : Up a b c d e f) : apO 4 (M4 a b c d e f) (0, 2, b) = some (ap02 a b c d e f) := by
  show detP [[0 + a + d + e, 0 - e], [0 - e, 0 + c + e + f]] = _
  exact det2_ok (p := 0 + a + d + e) (u := 0 - e) (p11 H) (by unfold ap02; clear H K; grind) (ap02_pos H) (w20 (n33 H K)) (w20 (ne_ H K))
theorem apO03 (K : Up a b c d e f) : apO 4 (M4 a b c d e f) (0, 3, c) = some (ap03 a b c d e f) := by
  show detP [[0 + a + d + e, 0 - d], [0 - d, 0 + b + d + f]] = _
  exact det2_ok (p := 0 + a + d + e) (u := 0 - d) (p11 H) (by unfold ap03; clear H K; grind) (ap03_pos H) (w20 (n22 H K)) (w20 (nd_ H K))
theorem apO12 (K : Up a b c d e f) : apO 4 (M4 a b c d e f) (1, 2, d) = some (ap12 a b c d e f) := by
  show detP [[0 + a + b + c, 0 - c], [0 - c, 0 + c + e + f]] = _
  exact det2_ok (p := 0 + a + b + c) (u := 0 - c) (p00 H) (by unfold ap12; clear H K; grind) (ap12_pos H) (w20 (n33 H K)) (w20 (nc_ H K))
theorem apO13 (K : Up a b c d e f) : apO 4 (M4 a b c d e f) (1, 3, e) = some (ap13 a b c d e f) := by
  show detP [[0 + a + b + c, 0 - b], [0 - b, 0 + b + d + f]] = _
  exact det2_ok (p := 0 + a + b + c) (u := 0 - b) (p00 H) (by unfold ap13; clear H K; grind) (ap13_pos H) (w20 (n22 H K)) (w20 (nb_ H K))
theorem apO23 (K : Up a b c d e f) : apO 4 (M4 a b c d e f) (2, 3, f) = some (ap23 a b c d e f) := by
  show detP [[0 + a + b + c, 0 - a], [0 - a, 0 + a + d + e]] = _
  exact det2_ok (p := 0 + a + b + c) (u := 0 - a) (p00 H) (by unfold ap23; clear H K; grind) (ap23_pos H) (w20 (n11 H K)) (w20 (na_ H K))
omit H in
theorem dk0 (a b c d e f : Int) : whE a b c d e f = de3 (0 + a + d + e) (0 - d) (0 - e) (0 - d) (0 + b + d + f) (0 - f) (0 - e) (0 - f) (0 + c + e + f) := by unfold whE de3; grind
theorem kn0 (K : Up a b c d e f) : detP (woP 4 [0] (M4 a b c d e f)) = some (whE a b c d e f) := by
  show detP [[0 + a + d + e, 0 - d, 0 - e], [0 - d, 0 + b + d + f, 0 - f], [0 - e, 0 - f, 0 + c + e + f]] = _
  exact det3_ok (p11 H) (pos_of (ld03 a b c d e f) (ap03_pos H)) (dk0 a b c d e f) (whE_pos H) (w20 (n11 H K)) (w20 (nd_ H K)) (w20 (ne_ H K)) (w20 (nd_ H K)) (w20 (n22 H K)) (w20 (nf_ H K)) (w20 (ne_ H K)) (w20 (nf_ H K)) (w20 (n33 H K))
omit H in
theorem dk1 (a b c d e f : Int) : whE a b c d e f = de3 (0 + a + b + c) (0 - b) (0 - c) (0 - b) (0 + b + d + f) (0 - f) (0 - c) (0 - f) (0 + c + e + f) := by unfold whE de3; grind
theorem kn1 (K : Up a b c d e f) : detP (woP 4 [1] (M4 a b c d e f)) = some (whE a b c d e f) := by
  show detP [[0 + a + b + c, 0 - b, 0 - c], [0 - b, 0 + b + d + f, 0 - f], [0 - c, 0 - f, 0 + c + e + f]] = _
  exact det3_ok (p00 H) (pos_of (ld13 a b c d e f) (ap13_pos H)) (dk1 a b c d e f) (whE_pos H) (w20 (n00 H K)) (w20 (nb_ H K)) (w20 (nc_ H K)) (w20 (nb_ H K)) (w20 (n22 H K)) (w20 (nf_ H K)) (w20 (nc_ H K)) (w20 (nf_ H K)) (w20 (n33 H K))
omit H in
theorem dk2 (a b c d e f : Int) : whE a b c d e f = de3 (0 + a + b + c) (0 - a) (0 - c) (0 - a) (0 + a + d + e) (0 - e) (0 - c) (0 - e) (0 + c + e + f) := by unfold whE de3; grind
theorem kn2 (K : Up a b c d e f) : detP (woP 4 [2] (M4 a b c d e f)) = some (whE a b c d e f) := by
  show detP [[0 + a + b + c, 0 - a, 0 - c], [0 - a, 0 + a + d + e, 0 - e], [0 - c, 0 - e, 0 + c + e + f]] = _
  exact det3_ok (p00 H) (pos_of (ld23 a b c d e f) (ap23_pos H)) (dk2 a b c d e f) (whE_pos H) (w20 (n00 H K)) (w20 (na_ H K)) (w20 (nc_ H K)) (w20 (na_ H K)) (w20 (n11 H K)) (w20 (ne_ H K)) (w20 (nc_ H K)) (w20 (ne_ H K)) (w20 (n33 H K))
omit H in
theorem dk3 (a b c d e f : Int) : whE a b c d e f = de3 (0 + a + b + c) (0 - a) (0 - b) (0 - a) (0 + a + d + e) (0 - d) (0 - b) (0 - d) (0 + b + d + f) := by unfold whE de3; grind
theorem kn3 (K : Up a b c d e f) : detP (woP 4 [3] (M4 a b c d e f)) = some (whE a b c d e f) := by
  show detP [[0 + a + b + c, 0 - a, 0 - b], [0 - a, 0 + a + d + e, 0 - d], [0 - b, 0 - d, 0 + b + d + f]] = _
  exact det3_ok (p00 H) (pos_of (ld23 a b c d e f) (ap23_pos H)) (dk3 a b c d e f) (whE_pos H) (w20 (n00 H K)) (w20 (na_ H K)) (w20 (nb_ H K)) (w20 (na_ H K)) (w20 (n11 H K)) (w20 (nd_ H K)) (w20 (nb_ H K)) (w20 (nd_ H K)) (w20 (n22 H K))
end
theorem we01 (a b c d e f mo : Int) : whE a b c d e f + mo * ap01 a b c d e f = whE (a + mo) b c d e f := by unfold whE ap01; grind
theorem wl01 (a b c d e f mo : Int) : (0 + a + d + e + mo) * (0 + b + d + f) - (0 - d) * (0 - d) = ap03 (a + mo) b c d e f := by unfold ap03; grind
theorem wd01 (a b c d e f mo : Int) : whE (a + mo) b c d e f = de3 (0 + a + d + e + mo) (0 - d) (0 - e) (0 - d) (0 + b + d + f) (0 - f) (0 - e) (0 - f) (0 + c + e + f) := by unfold whE de3; grind
theorem wid01 {a b c d e f mo : Int} (H : Lo a b c d e f) (K : Up a b c d e f) (m1 : 1 ≤ mo) (m3 : mo ≤ 3) : detP (woP 4 [0] (addL 4 (M4 a b c d e f) 0 1 mo)) = some (whE a b c d e f + mo * ap01 a b c d e f) := by
  have H2 : Lo (a + mo) b c d e f := ⟨gem H.a m1, H.b, H.c, H.d, H.e, H.f⟩
  rw [we01]
  show detP [[0 + a + d + e + mo, 0 - d, 0 - e], [0 - d, 0 + b + d + f, 0 - f], [0 - e, 0 - f, 0 + c + e + f]] = _
  exact det3_ok (pm (p11 H) m1) (pos_of (wl01 a b c d e f mo) (ap03_pos H2)) (wd01 a b c d e f mo) (whE_pos H2) (t4 (n11 H K) m1 m3) (w20 (nd_ H K)) (w20 (ne_ H K)) (w20 (nd_ H K)) (w20 (n22 H K)) (w20 (nf_ H K)) (w20 (ne_ H K)) (w20 (nf_ H K)) (w20 (n33 H K))
theorem we02 (a b c d e f mo : Int) : whE a b c d e f + mo * ap02 a b c d e f = whE a (b + mo) c d e f := by unfold whE ap02; grind
theorem wl02 (a b c d e f mo : Int) : (0 + a + d + e) * (0 + b + d + f + mo) - (0 - d) * (0 - d) = ap03 a (b + mo) c d e f := by unfold ap03; grind
theorem wd02 (a b c d e f mo : Int) : whE a (b + mo) c d e f = de3 (0 + a + d + e) (0 - d) (0 - e) (0 - d) (0 + b + d + f + mo) (0 - f) (0 - e) (0 - f) (0 + c + e + f) := by unfold whE de3; grind
theorem wid02 {a b c d e f mo : Int} (H : Lo a b c d e f) (K : Up a b c d e f) (m1 : 1 ≤ mo) (m3 : mo ≤ 3) : detP (woP 4 [0] (addL 4 (M4 a b c d e f) 0 2 mo)) = some (whE a b c d e f + mo * ap02 a b c d e f) := by
  have H2 : Lo a (b + mo) c d e f := ⟨H.a, gem0 H.b m1, H.c, H.d, H.e, H.f⟩
  rw [we02]
  show detP [[0 + a + d + e, 0 - d, 0 - e], [0 - d, 0 + b + d + f + mo, 0 - f], [0 - e, 0 - f, 0 + c + e + f]] = _
  exact det3_ok (p11 H) (pos_of (wl02 a b c d e f mo) (ap03_pos H2)) (wd02 a b c d e f mo) (whE_pos H2) (w20 (n11 H K)) (w20 (nd_ H K)) (w20 (ne_ H K)) (w20 (nd_ H K)) (t4 (n22 H K) m1 m3) (w20 (nf_ H K)) (w20 (ne_ H K)) (w20 (nf_ H K)) (w20 (n33 H K))
theorem we03 (a b c d e f mo : Int) : whE a b c d e f + mo * ap03 a b c d e f = whE a b (c + mo) d e f := by unfold whE ap03; grind
theorem wl03 (a b c d e f mo : Int) : (0 + a + d + e) * (0 + b + d + f) - (0 - d) * (0 - d) = ap03 a b (c + mo) d e f := by unfold ap03; grind
theorem wd03 (a b c d e f mo : Int) : whE a b (c + mo) d e f = de3 (0 + a + d + e) (0 - d) (0 - e) (0 - d) (0 + b + d + f) (0 - f) (0 - e) (0 - f) (0 + c + e + f + mo) := by unfold whE de3; grind
theorem wid03 {a b c d e f mo : Int} (H : Lo a b c d e f) (K : Up a b c d e f) (m1 : 1 ≤ mo) (m3 : mo ≤ 3) : detP (woP 4 [0] (addL 4 (M4 a b c d e f) 0 3 mo)) = some (whE a b c d e f + mo * ap03 a b c d e f) := by
  have H2 : Lo a b (c + mo) d e f := ⟨H.a, H.b, gem0 H.c m1, H.d, H.e, H.f⟩
  rw [we03]
  show detP [[0 + a + d + e, 0 - d, 0 - e], [0 - d, 0 + b + d + f, 0 - f], [0 - e, 0 - f, 0 + c + e + f + mo]] = _
  exact det3_ok (p11 H) (pos_of (wl03 a b c d e f mo) (ap03_pos H2)) (wd03 a b c d e f mo) (whE_pos H2) (w20 (n11 H K)) (w20 (nd_ H K)) (w20 (ne_ H K)) (w20 (nd_ H K)) (w20 (n22 H K)) (w20 (nf_ H K)) (w20 (ne_ H K)) (w20 (nf_ H K)) (t4 (n33 H K) m1 m3)
theorem we12 (a b c d e f mo : Int) : whE a b c d e f + mo * ap12 a b c d e f = whE a b c (d + mo) e f := by unfold whE ap12; grind
theorem wl12 (a b c d e f mo : Int) : (0 + a + d + e + mo) * (0 + b + d + f + mo) - (0 - d - mo) * (0 - d - mo) = ap03 a b c (d + mo) e f := by unfold ap03; grind
theorem wd12 (a b c d e f mo : Int) : whE a b c (d + mo) e f = de3 (0 + a + d + e + mo) (0 - d - mo) (0 - e) (0 - d - mo) (0 + b + d + f + mo) (0 - f) (0 - e) (0 - f) (0 + c + e + f) := by unfold whE de3; grind
theorem wid12 {a b c d e f mo : Int} (H : Lo a b c d e f) (K : Up a b c d e f) (m1 : 1 ≤ mo) (m3 : mo ≤ 3) : detP (woP 4 [0] (addL 4 (M4 a b c d e f) 1 2 mo)) = some (whE a b c d e f + mo * ap12 a b c d e f) := by
  have H2 : Lo a b c (d + mo) e f := ⟨H.a, H.b, H.c, gem H.d m1, H.e, H.f⟩
  rw [we12]
  show detP [[0 + a + d + e + mo, 0 - d - mo, 0 - e], [0 - d - mo, 0 + b + d + f + mo, 0 - f], [0 - e, 0 - f, 0 + c + e + f]] = _
  exact det3_ok (pm (p11 H) m1) (pos_of (wl12 a b c d e f mo) (ap03_pos H2)) (wd12 a b c d e f mo) (whE_pos H2) (t4 (n11 H K) m1 m3) (t2 (nd_ H K) m1 m3) (w20 (ne_ H K)) (t2 (nd_ H K) m1 m3) (t4 (n22 H K) m1 m3) (w20 (nf_ H K)) (w20 (ne_ H K)) (w20 (nf_ H K)) (w20 (n33 H K))
theorem we13 (a b c d e f mo : Int) : whE a b c d e f + mo * ap13 a b c d e f = whE a b c d (e + mo) f := by unfold whE ap13; grind
theorem wl13 (a b c d e f mo : Int) : (0 + a + d + e + mo) * (0 + b + d + f) - (0 - d) * (0 - d) = ap03 a b c d (e + mo) f := by unfold ap03; grind
theorem wd13 (a b c d e f mo : Int) : whE a b c d (e + mo) f = de3 (0 + a + d + e + mo) (0 - d) (0 - e - mo) (0 - d) (0 + b + d + f) (0 - f) (0 - e - mo) (0 - f) (0 + c + e + f + mo) := by unfold whE de3; grind
theorem wid13 {a b c d e f mo : Int} (H : Lo a b c d e f) (K : Up a b c d e f) (m1 : 1 ≤ mo) (m3 : mo ≤ 3) : detP (woP 4 [0] (addL 4 (M4 a b c d e f) 1 3 mo)) = some (whE a b c d e f + mo * ap13 a b c d e f) := by
  have H2 : Lo a b c d (e + mo) f := ⟨H.a, H.b, H.c, H.d, gem0 H.e m1, H.f⟩
  rw [we13]
  show detP [[0 + a + d + e + mo, 0 - d, 0 - e - mo], [0 - d, 0 + b + d + f, 0 - f], [0 - e - mo, 0 - f, 0 + c + e + f + mo]] = _
  exact det3_ok (pm (p11 H) m1) (pos_of (wl13 a b c d e f mo) (ap03_pos H2)) (wd13 a b c d e f mo) (whE_pos H2) (t4 (n11 H K) m1 m3) (w20 (nd_ H K)) (t2 (ne_ H K) m1 m3) (w20 (nd_ H K)) (w20 (n22 H K)) (w20 (nf_ H K)) (t2 (ne_ H K) m1 m3) (w20 (nf_ H K)) (t4 (n33 H K) m1 m3)
theorem we23 (a b c d e f mo : Int) : whE a b c d e f + mo * ap23 a b c d e f = whE a b c d e (f + mo) := by unfold whE ap23; grind
theorem wl23 (a b c d e f mo : Int) : (0 + a + d + e) * (0 + b + d + f + mo) - (0 - d) * (0 - d) = ap03 a b c d e (f + mo) := by unfold ap03; grind
theorem wd23 (a b c d e f mo : Int) : whE a b c d e (f + mo) = de3 (0 + a + d + e) (0 - d) (0 - e) (0 - d) (0 + b + d + f + mo) (0 - f - mo) (0 - e) (0 - f - mo) (0 + c + e + f + mo) := by unfold whE de3; grind
theorem wid23 {a b c d e f mo : Int} (H : Lo a b c d e f) (K : Up a b c d e f) (m1 : 1 ≤ mo) (m3 : mo ≤ 3) : detP (woP 4 [0] (addL 4 (M4 a b c d e f) 2 3 mo)) = some (whE a b c d e f + mo * ap23 a b c d e f) := by
  have H2 : Lo a b c d e (f + mo) := ⟨H.a, H.b, H.c, H.d, H.e, gem H.f m1⟩
  rw [we23]
  show detP [[0 + a + d + e, 0 - d, 0 - e], [0 - d, 0 + b + d + f + mo, 0 - f - mo], [0 - e, 0 - f - mo, 0 + c + e + f + mo]] = _
  exact det3_ok (p11 H) (pos_of (wl23 a b c d e f mo) (ap03_pos H2)) (wd23 a b c d e f mo) (whE_pos H2) (w20 (n11 H K)) (w20 (nd_ H K)) (w20 (ne_ H K)) (w20 (nd_ H K)) (t4 (n22 H K) m1 m3) (t2 (nf_ H K) m1 m3) (w20 (ne_ H K)) (t2 (nf_ H K) m1 m3) (t4 (n33 H K) m1 m3)
theorem solP_of {n e : Nat} {m : List (List Int)} {qs : List Q} (h1 : smallW n (augP (woP n [e] m) (degP n e m)) = true) (h2 : smallW (n - 1) (woP n [e] m) = true)
    (h : ((echI (n - 1) 0 ((woP n [e] m).map row1)).bind fun _ => (echI (n - 1) 0 ((augP (woP n [e] m) (degP n e m)).map row1)).map fun r => r.map (lastQ (n - 1))) = some qs) : solP n e m = some qs := by
  unfold solP
  rw [h1, h2]
  exact h
theorem smallW_of {w : Nat} {m : List (List Int)} (h : ∀ r ∈ m, r.length = w ∧ Bd 1000 r) : smallW w m = true := by
  unfold smallW
  simp only [List.all_eq_true, Bool.and_eq_true]
  intro r hr
  refine ⟨fun x hx => small_of (by have := (h r hr).2 x hx; omega), ?_⟩
  rw [(h r hr).1]; exact Nat.beq_refl w
theorem w3k {n : Nat} (h : n ≤ 10) : n ≤ 1000 := Nat.le_trans h (by decide)
theorem smallW3 {w : Nat} {r s t : List Int} (l1 : r.length = w) (l2 : s.length = w) (l3 : t.length = w) (b1 : Bd 1000 r) (b2 : Bd 1000 s) (b3 : Bd 1000 t) : smallW w [r, s, t] = true := by
  refine smallW_of fun x hx => ?_
  simp only [List.mem_cons, List.not_mem_nil, or_false] at hx
  rcases hx with rfl | rfl | rfl
  · exact ⟨l1, b1⟩
  · exact ⟨l2, b2⟩
  · exact ⟨l3, b3⟩
theorem cr_bd {p u v u' q w v' w' r g0 g1 g2 : Int} (b1 : p.natAbs ≤ 10) (b2 : u.natAbs ≤ 10) (b3 : v.natAbs ≤ 10) (b4 : u'.natAbs ≤ 10) (b5 : q.natAbs ≤ 10) (b6 : w.natAbs ≤ 10) (b7 : v'.natAbs ≤ 10) (b8 : w'.natAbs ≤ 10) (b9 : r.natAbs ≤ 10) (c0 : g0.natAbs ≤ 10) (c1 : g1.natAbs ≤ 10) (c2 : g2.natAbs ≤ 10) :
    (cr0 p u v u' q w v' w' r g0 g1 g2).natAbs ≤ 1000000 ∧ (cr1 p u v u' q w v' w' r g0 g1 g2).natAbs ≤ 1000000 ∧ (cr2 p u v u' q w v' w' r g0 g1 g2).natAbs ≤ 1000000 := by
  have T : ∀ {x y z t g : Int}, x.natAbs ≤ 10 → y.natAbs ≤ 10 → z.natAbs ≤ 10 → t.natAbs ≤ 10 → g.natAbs ≤ 10 → ((x * y - z * t) * g).natAbs ≤ 2000 := fun hx hy hz ht hg => by
    have k1 := bmul hx hy
    have k2 := bmul hz ht
    exact bmul (subB k1 k2) hg
  have G : ∀ {x y z : Int}, x.natAbs ≤ 2000 → y.natAbs ≤ 2000 → z.natAbs ≤ 2000 → (x - y + z).natAbs ≤ 1000000 := fun hx hy hz => Nat.le_trans (addB (subB hx hy) hz) (by decide)
  have G' : ∀ {x y z : Int}, x.natAbs ≤ 2000 → y.natAbs ≤ 2000 → z.natAbs ≤ 2000 → (x + y - z).natAbs ≤ 1000000 := fun hx hy hz => Nat.le_trans (subB (addB hx hy) hz) (by decide)
  exact ⟨G (T b5 b9 b6 b8 c0) (T b2 b9 b3 b8 c1) (T b2 b6 b3 b5 c2), G' (T b6 b7 b4 b9 c0) (T b1 b9 b3 b7 c1) (T b1 b6 b3 b4 c2), G (T b4 b8 b5 b7 c0) (T b1 b8 b2 b7 c1) (T b1 b5 b2 b4 c2)⟩
section
variable {a b c d e f : Int} (H : Lo a b c d e f) (K : Up a b c d e f)
include H K
theorem sol0 : solP 4 0 (M4 a b c d e f) = some [nf (cr0 (0 + a + d + e) (0 - d) (0 - e) (0 - d) (0 + b + d + f) (0 - f) (0 - e) (0 - f) (0 + c + e + f) (0 + a + d + e) (0 + b + d + f) (0 + c + e + f)) (whE a b c d e f), nf (cr1 (0 + a + d + e) (0 - d) (0 - e) (0 - d) (0 + b + d + f) (0 - f) (0 - e) (0 - f) (0 + c + e + f) (0 + a + d + e) (0 + b + d + f) (0 + c + e + f)) (whE a b c d e f), nf (cr2 (0 + a + d + e) (0 - d) (0 - e) (0 - d) (0 + b + d + f) (0 - f) (0 - e) (0 - f) (0 + c + e + f) (0 + a + d + e) (0 + b + d + f) (0 + c + e + f)) (whE a b c d e f)] := by
  refine solP_of ?_ ?_ ?_
  · show smallW 4 [[0 + a + d + e, 0 - d, 0 - e, 0 + a + d + e], [0 - d, 0 + b + d + f, 0 - f, 0 + b + d + f], [0 - e, 0 - f, 0 + c + e + f, 0 + c + e + f]] = true
    exact smallW3 (r := [0 + a + d + e, 0 - d, 0 - e, 0 + a + d + e]) (s := [0 - d, 0 + b + d + f, 0 - f, 0 + b + d + f]) (t := [0 - e, 0 - f, 0 + c + e + f, 0 + c + e + f]) rfl rfl rfl (Bd.cons (w3k (n11 H K)) (Bd.cons (w3k (nd_ H K)) (Bd.cons (w3k (ne_ H K)) (Bd.cons (w3k (n11 H K)) (Bd.nil))))) (Bd.cons (w3k (nd_ H K)) (Bd.cons (w3k (n22 H K)) (Bd.cons (w3k (nf_ H K)) (Bd.cons (w3k (n22 H K)) (Bd.nil))))) (Bd.cons (w3k (ne_ H K)) (Bd.cons (w3k (nf_ H K)) (Bd.cons (w3k (n33 H K)) (Bd.cons (w3k (n33 H K)) (Bd.nil)))))
  · show smallW 3 [[0 + a + d + e, 0 - d, 0 - e], [0 - d, 0 + b + d + f, 0 - f], [0 - e, 0 - f, 0 + c + e + f]] = true
    exact smallW3 (r := [0 + a + d + e, 0 - d, 0 - e]) (s := [0 - d, 0 + b + d + f, 0 - f]) (t := [0 - e, 0 - f, 0 + c + e + f]) rfl rfl rfl (Bd.cons (w3k (n11 H K)) (Bd.cons (w3k (nd_ H K)) (Bd.cons (w3k (ne_ H K)) (Bd.nil)))) (Bd.cons (w3k (nd_ H K)) (Bd.cons (w3k (n22 H K)) (Bd.cons (w3k (nf_ H K)) (Bd.nil)))) (Bd.cons (w3k (ne_ H K)) (Bd.cons (w3k (nf_ H K)) (Bd.cons (w3k (n33 H K)) (Bd.nil))))
  · exact solve3 (p := 0 + a + d + e) (u := 0 - d) (v := 0 - e) (u' := 0 - d) (q := 0 + b + d + f) (w := 0 - f) (v' := 0 - e) (w' := 0 - f) (r := 0 + c + e + f) (g0 := 0 + a + d + e) (g1 := 0 + b + d + f) (g2 := 0 + c + e + f) (p11 H) (pos_of (ld03 a b c d e f) (ap03_pos H)) (dk0 a b c d e f) (whE_pos H) (n11 H K) (nd_ H K) (ne_ H K) (nd_ H K) (n22 H K) (nf_ H K) (ne_ H K) (nf_ H K) (n33 H K) (n11 H K) (n22 H K) (n33 H K)
theorem sol1 : solP 4 1 (M4 a b c d e f) = some [nf (cr0 (0 + a + b + c) (0 - b) (0 - c) (0 - b) (0 + b + d + f) (0 - f) (0 - c) (0 - f) (0 + c + e + f) (0 + a + b + c) (0 + b + d + f) (0 + c + e + f)) (whE a b c d e f), nf (cr1 (0 + a + b + c) (0 - b) (0 - c) (0 - b) (0 + b + d + f) (0 - f) (0 - c) (0 - f) (0 + c + e + f) (0 + a + b + c) (0 + b + d + f) (0 + c + e + f)) (whE a b c d e f), nf (cr2 (0 + a + b + c) (0 - b) (0 - c) (0 - b) (0 + b + d + f) (0 - f) (0 - c) (0 - f) (0 + c + e + f) (0 + a + b + c) (0 + b + d + f) (0 + c + e + f)) (whE a b c d e f)] := by
  refine solP_of ?_ ?_ ?_
  · show smallW 4 [[0 + a + b + c, 0 - b, 0 - c, 0 + a + b + c], [0 - b, 0 + b + d + f, 0 - f, 0 + b + d + f], [0 - c, 0 - f, 0 + c + e + f, 0 + c + e + f]] = true
    exact smallW3 (r := [0 + a + b + c, 0 - b, 0 - c, 0 + a + b + c]) (s := [0 - b, 0 + b + d + f, 0 - f, 0 + b + d + f]) (t := [0 - c, 0 - f, 0 + c + e + f, 0 + c + e + f]) rfl rfl rfl (Bd.cons (w3k (n00 H K)) (Bd.cons (w3k (nb_ H K)) (Bd.cons (w3k (nc_ H K)) (Bd.cons (w3k (n00 H K)) (Bd.nil))))) (Bd.cons (w3k (nb_ H K)) (Bd.cons (w3k (n22 H K)) (Bd.cons (w3k (nf_ H K)) (Bd.cons (w3k (n22 H K)) (Bd.nil))))) (Bd.cons (w3k (nc_ H K)) (Bd.cons (w3k (nf_ H K)) (Bd.cons (w3k (n33 H K)) (Bd.cons (w3k (n33 H K)) (Bd.nil)))))
  · show smallW 3 [[0 + a + b + c, 0 - b, 0 - c], [0 - b, 0 + b + d + f, 0 - f], [0 - c, 0 - f, 0 + c + e + f]] = true
    exact smallW3 (r := [0 + a + b + c, 0 - b, 0 - c]) (s := [0 - b, 0 + b + d + f, 0 - f]) (t := [0 - c, 0 - f, 0 + c + e + f]) rfl rfl rfl (Bd.cons (w3k (n00 H K)) (Bd.cons (w3k (nb_ H K)) (Bd.cons (w3k (nc_ H K)) (Bd.nil)))) (Bd.cons (w3k (nb_ H K)) (Bd.cons (w3k (n22 H K)) (Bd.cons (w3k (nf_ H K)) (Bd.nil)))) (Bd.cons (w3k (nc_ H K)) (Bd.cons (w3k (nf_ H K)) (Bd.cons (w3k (n33 H K)) (Bd.nil))))
  · exact solve3 (p := 0 + a + b + c) (u := 0 - b) (v := 0 - c) (u' := 0 - b) (q := 0 + b + d + f) (w := 0 - f) (v' := 0 - c) (w' := 0 - f) (r := 0 + c + e + f) (g0 := 0 + a + b + c) (g1 := 0 + b + d + f) (g2 := 0 + c + e + f) (p00 H) (pos_of (ld13 a b c d e f) (ap13_pos H)) (dk1 a b c d e f) (whE_pos H) (n00 H K) (nb_ H K) (nc_ H K) (nb_ H K) (n22 H K) (nf_ H K) (nc_ H K) (nf_ H K) (n33 H K) (n00 H K) (n22 H K) (n33 H K)
theorem sol2 : solP 4 2 (M4 a b c d e f) = some [nf (cr0 (0 + a + b + c) (0 - a) (0 - c) (0 - a) (0 + a + d + e) (0 - e) (0 - c) (0 - e) (0 + c + e + f) (0 + a + b + c) (0 + a + d + e) (0 + c + e + f)) (whE a b c d e f), nf (cr1 (0 + a + b + c) (0 - a) (0 - c) (0 - a) (0 + a + d + e) (0 - e) (0 - c) (0 - e) (0 + c + e + f) (0 + a + b + c) (0 + a + d + e) (0 + c + e + f)) (whE a b c d e f), nf (cr2 (0 + a + b + c) (0 - a) (0 - c) (0 - a) (0 + a + d + e) (0 - e) (0 - c) (0 - e) (0 + c + e + f) (0 + a + b + c) (0 + a + d + e) (0 + c + e + f)) (whE a b c d e f)] := by
  refine solP_of ?_ ?_ ?_
  · show smallW 4 [[0 + a + b + c, 0 - a, 0 - c, 0 + a + b + c], [0 - a, 0 + a + d + e, 0 - e, 0 + a + d + e], [0 - c, 0 - e, 0 + c + e + f, 0 + c + e + f]] = true
    exact smallW3 (r := [0 + a + b + c, 0 - a, 0 - c, 0 + a + b + c]) (s := [0 - a, 0 + a + d + e, 0 - e, 0 + a + d + e]) (t := [0 - c, 0 - e, 0 + c + e + f, 0 + c + e + f]) rfl rfl rfl (Bd.cons (w3k (n00 H K)) (Bd.cons (w3k (na_ H K)) (Bd.cons (w3k (nc_ H K)) (Bd.cons (w3k (n00 H K)) (Bd.nil))))) (Bd.cons (w3k (na_ H K)) (Bd.cons (w3k (n11 H K)) (Bd.cons (w3k (ne_ H K)) (Bd.cons (w3k (n11 H K)) (Bd.nil))))) (Bd.cons (w3k (nc_ H K)) (Bd.cons (w3k (ne_ H K)) (Bd.cons (w3k (n33 H K)) (Bd.cons (w3k (n33 H K)) (Bd.nil)))))
  · show smallW 3 [[0 + a + b + c, 0 - a, 0 - c], [0 - a, 0 + a + d + e, 0 - e], [0 - c, 0 - e, 0 + c + e + f]] = true
    exact smallW3 (r := [0 + a + b + c, 0 - a, 0 - c]) (s := [0 - a, 0 + a + d + e, 0 - e]) (t := [0 - c, 0 - e, 0 + c + e + f]) rfl rfl rfl (Bd.cons (w3k (n00 H K)) (Bd.cons (w3k (na_ H K)) (Bd.cons (w3k (nc_ H K)) (Bd.nil)))) (Bd.cons (w3k (na_ H K)) (Bd.cons (w3k (n11 H K)) (Bd.cons (w3k (ne_ H K)) (Bd.nil)))) (Bd.cons (w3k (nc_ H K)) (Bd.cons (w3k (ne_ H K)) (Bd.cons (w3k (n33 H K)) (Bd.nil))))
  · exact solve3 (p := 0 + a + b + c) (u := 0 - a) (v := 0 - c) (u' := 0 - a) (q := 0 + a + d + e) (w := 0 - e) (v' := 0 - c) (w' := 0 - e) (r := 0 + c + e + f) (g0 := 0 + a + b + c) (g1 := 0 + a + d + e) (g2 := 0 + c + e + f) (p00 H) (pos_of (ld23 a b c d e f) (ap23_pos H)) (dk2 a b c d e f) (whE_pos H) (n00 H K) (na_ H K) (nc_ H K) (na_ H K) (n11 H K) (ne_ H K) (nc_ H K) (ne_ H K) (n33 H K) (n00 H K) (n11 H K) (n33 H K)
theorem sol3 : solP 4 3 (M4 a b c d e f) = some [nf (cr0 (0 + a + b + c) (0 - a) (0 - b) (0 - a) (0 + a + d + e) (0 - d) (0 - b) (0 - d) (0 + b + d + f) (0 + a + b + c) (0 + a + d + e) (0 + b + d + f)) (whE a b c d e f), nf (cr1 (0 + a + b + c) (0 - a) (0 - b) (0 - a) (0 + a + d + e) (0 - d) (0 - b) (0 - d) (0 + b + d + f) (0 + a + b + c) (0 + a + d + e) (0 + b + d + f)) (whE a b c d e f), nf (cr2 (0 + a + b + c) (0 - a) (0 - b) (0 - a) (0 + a + d + e) (0 - d) (0 - b) (0 - d) (0 + b + d + f) (0 + a + b + c) (0 + a + d + e) (0 + b + d + f)) (whE a b c d e f)] := by
  refine solP_of ?_ ?_ ?_
  · show smallW 4 [[0 + a + b + c, 0 - a, 0 - b, 0 + a + b + c], [0 - a, 0 + a + d + e, 0 - d, 0 + a + d + e], [0 - b, 0 - d, 0 + b + d + f, 0 + b + d + f]] = true
    exact smallW3 (r := [0 + a + b + c, 0 - a, 0 - b, 0 + a + b + c]) (s := [0 - a, 0 + a + d + e, 0 - d, 0 + a + d + e]) (t := [0 - b, 0 - d, 0 + b + d + f, 0 + b + d + f]) rfl rfl rfl (Bd.cons (w3k (n00 H K)) (Bd.cons (w3k (na_ H K)) (Bd.cons (w3k (nb_ H K)) (Bd.cons (w3k (n00 H K)) (Bd.nil))))) (Bd.cons (w3k (na_ H K)) (Bd.cons (w3k (n11 H K)) (Bd.cons (w3k (nd_ H K)) (Bd.cons (w3k (n11 H K)) (Bd.nil))))) (Bd.cons (w3k (nb_ H K)) (Bd.cons (w3k (nd_ H K)) (Bd.cons (w3k (n22 H K)) (Bd.cons (w3k (n22 H K)) (Bd.nil)))))
  · show smallW 3 [[0 + a + b + c, 0 - a, 0 - b], [0 - a, 0 + a + d + e, 0 - d], [0 - b, 0 - d, 0 + b + d + f]] = true
    exact smallW3 (r := [0 + a + b + c, 0 - a, 0 - b]) (s := [0 - a, 0 + a + d + e, 0 - d]) (t := [0 - b, 0 - d, 0 + b + d + f]) rfl rfl rfl (Bd.cons (w3k (n00 H K)) (Bd.cons (w3k (na_ H K)) (Bd.cons (w3k (nb_ H K)) (Bd.nil)))) (Bd.cons (w3k (na_ H K)) (Bd.cons (w3k (n11 H K)) (Bd.cons (w3k (nd_ H K)) (Bd.nil)))) (Bd.cons (w3k (nb_ H K)) (Bd.cons (w3k (nd_ H K)) (Bd.cons (w3k (n22 H K)) (Bd.nil))))
  · exact solve3 (p := 0 + a + b + c) (u := 0 - a) (v := 0 - b) (u' := 0 - a) (q := 0 + a + d + e) (w := 0 - d) (v' := 0 - b) (w' := 0 - d) (r := 0 + b + d + f) (g0 := 0 + a + b + c) (g1 := 0 + a + d + e) (g2 := 0 + b + d + f) (p00 H) (pos_of (ld23 a b c d e f) (ap23_pos H)) (dk3 a b c d e f) (whE_pos H) (n00 H K) (na_ H K) (nb_ H K) (na_ H K) (n11 H K) (nd_ H K) (nb_ H K) (nd_ H K) (n22 H K) (n00 H K) (n11 H K) (n22 H K)
theorem two_bd : (2 * (a + (b + (c + (d + (e + (f + (0)))))))).natAbs ≤ 1000 := by
  obtain ⟨ha, hb, hc, hd, he, hf⟩ := H
  obtain ⟨ka, kb, kc, kd, ke, kf⟩ := K
  omega
theorem wh_na : (whE a b c d e f).natAbs ≤ 1000 := Nat.le_trans (na (B := 432) (whE_pos H) (whE_le H K)) (by decide)
theorem ap01_na : (ap01 a b c d e f).natAbs ≤ 1000 := Nat.le_trans (na (B := 72) (ap01_pos H) (ap01_le H K)) (by decide)
theorem ap02_na : (ap02 a b c d e f).natAbs ≤ 1000 := Nat.le_trans (na (B := 72) (ap02_pos H) (ap02_le H K)) (by decide)
theorem ap03_na : (ap03 a b c d e f).natAbs ≤ 1000 := Nat.le_trans (na (B := 72) (ap03_pos H) (ap03_le H K)) (by decide)
theorem ap12_na : (ap12 a b c d e f).natAbs ≤ 1000 := Nat.le_trans (na (B := 72) (ap12_pos H) (ap12_le H K)) (by decide)
theorem ap13_na : (ap13 a b c d e f).natAbs ≤ 1000 := Nat.le_trans (na (B := 72) (ap13_pos H) (ap13_le H K)) (by decide)
theorem ap23_na : (ap23 a b c d e f).natAbs ≤ 1000 := Nat.le_trans (na (B := 72) (ap23_pos H) (ap23_le H K)) (by decide)
theorem apf01 : apf 4 (M4 a b c d e f) (0, 1, a) = ap01 a b c d e f := by unfold apf; rw [apO01 H K]; rfl
theorem apf02 : apf 4 (M4 a b c d e f) (0, 2, b) = ap02 a b c d e f := by unfold apf; rw [apO02 H K]; rfl
theorem apf03 : apf 4 (M4 a b c d e f) (0, 3, c) = ap03 a b c d e f := by unfold apf; rw [apO03 H K]; rfl
theorem apf12 : apf 4 (M4 a b c d e f) (1, 2, d) = ap12 a b c d e f := by unfold apf; rw [apO12 H K]; rfl
theorem apf13 : apf 4 (M4 a b c d e f) (1, 3, e) = ap13 a b c d e f := by unfold apf; rw [apO13 H K]; rfl
theorem apf23 : apf 4 (M4 a b c d e f) (2, 3, f) = ap23 a b c d e f := by unfold apf; rw [apO23 H K]; rfl
omit H K in
theorem sum01 (a b c d e f : Int) : cr0 (0 + a + b + c) (0 - b) (0 - c) (0 - b) (0 + b + d + f) (0 - f) (0 - c) (0 - f) (0 + c + e + f) (0 + a + b + c) (0 + b + d + f) (0 + c + e + f) + cr0 (0 + a + d + e) (0 - d) (0 - e) (0 - d) (0 + b + d + f) (0 - f) (0 - e) (0 - f) (0 + c + e + f) (0 + a + d + e) (0 + b + d + f) (0 + c + e + f) = 2 * (a + (b + (c + (d + (e + (f + (0))))))) * ap01 a b c d e f := by simp only [cr0, cr1, cr2, ap01]; grind
theorem st01 : stepsOk 4 (M4 a b c d e f) (whE a b c d e f) (2 * (a + (b + (c + (d + (e + (f + (0)))))))) (0, 1, a) = true := by
  unfold stepsOk
  rw [apf01 H K, sol1 H K, sol0 H K]
  show stepOk (whE a b c d e f) (2 * (a + (b + (c + (d + (e + (f + (0)))))))) (ap01 a b c d e f) (nf (cr0 (0 + a + b + c) (0 - b) (0 - c) (0 - b) (0 + b + d + f) (0 - f) (0 - c) (0 - f) (0 + c + e + f) (0 + a + b + c) (0 + b + d + f) (0 + c + e + f)) (whE a b c d e f)) (nf (cr0 (0 + a + d + e) (0 - d) (0 - e) (0 - d) (0 + b + d + f) (0 - f) (0 - e) (0 - f) (0 + c + e + f) (0 + a + d + e) (0 + b + d + f) (0 + c + e + f)) (whE a b c d e f)) = true
  exact stepOk_of (whE_pos H) (wh_na H K) (cr_bd (n00 H K) (nb_ H K) (nc_ H K) (nb_ H K) (n22 H K) (nf_ H K) (nc_ H K) (nf_ H K) (n33 H K) (n00 H K) (n22 H K) (n33 H K)).1 (cr_bd (n11 H K) (nd_ H K) (ne_ H K) (nd_ H K) (n22 H K) (nf_ H K) (ne_ H K) (nf_ H K) (n33 H K) (n11 H K) (n22 H K) (n33 H K)).1 (two_bd H K) (ap01_na H K) (sum01 a b c d e f)
omit H K in
theorem sum02 (a b c d e f : Int) : cr0 (0 + a + b + c) (0 - a) (0 - c) (0 - a) (0 + a + d + e) (0 - e) (0 - c) (0 - e) (0 + c + e + f) (0 + a + b + c) (0 + a + d + e) (0 + c + e + f) + cr1 (0 + a + d + e) (0 - d) (0 - e) (0 - d) (0 + b + d + f) (0 - f) (0 - e) (0 - f) (0 + c + e + f) (0 + a + d + e) (0 + b + d + f) (0 + c + e + f) = 2 * (a + (b + (c + (d + (e + (f + (0))))))) * ap02 a b c d e f := by simp only [cr0, cr1, cr2, ap02]; grind
theorem st02 : stepsOk 4 (M4 a b c d e f) (whE a b c d e f) (2 * (a + (b + (c + (d + (e + (f + (0)))))))) (0, 2, b) = true := by
  unfold stepsOk
  rw [apf02 H K, sol2 H K, sol0 H K]
  show stepOk (whE a b c d e f) (2 * (a + (b + (c + (d + (e + (f + (0)))))))) (ap02 a b c d e f) (nf (cr0 (0 + a + b + c) (0 - a) (0 - c) (0 - a) (0 + a + d + e) (0 - e) (0 - c) (0 - e) (0 + c + e + f) (0 + a + b + c) (0 + a + d + e) (0 + c + e + f)) (whE a b c d e f)) (nf (cr1 (0 + a + d + e) (0 - d) (0 - e) (0 - d) (0 + b + d + f) (0 - f) (0 - e) (0 - f) (0 + c + e + f) (0 + a + d + e) (0 + b + d + f) (0 + c + e + f)) (whE a b c d e f)) = true
  exact stepOk_of (whE_pos H) (wh_na H K) (cr_bd (n00 H K) (na_ H K) (nc_ H K) (na_ H K) (n11 H K) (ne_ H K) (nc_ H K) (ne_ H K) (n33 H K) (n00 H K) (n11 H K) (n33 H K)).1 (cr_bd (n11 H K) (nd_ H K) (ne_ H K) (nd_ H K) (n22 H K) (nf_ H K) (ne_ H K) (nf_ H K) (n33 H K) (n11 H K) (n22 H K) (n33 H K)).2.1 (two_bd H K) (ap02_na H K) (sum02 a b c d e f)
omit H K in
theorem sum03 (a b c d e f : Int) : cr0 (0 + a + b + c) (0 - a) (0 - b) (0 - a) (0 + a + d + e) (0 - d) (0 - b) (0 - d) (0 + b + d + f) (0 + a + b + c) (0 + a + d + e) (0 + b + d + f) + cr2 (0 + a + d + e) (0 - d) (0 - e) (0 - d) (0 + b + d + f) (0 - f) (0 - e) (0 - f) (0 + c + e + f) (0 + a + d + e) (0 + b + d + f) (0 + c + e + f) = 2 * (a + (b + (c + (d + (e + (f + (0))))))) * ap03 a b c d e f := by simp only [cr0, cr1, cr2, ap03]; grind
theorem st03 : stepsOk 4 (M4 a b c d e f) (whE a b c d e f) (2 * (a + (b + (c + (d + (e + (f + (0)))))))) (0, 3, c) = true := by
  unfold stepsOk
  rw [apf03 H K, sol3 H K, sol0 H K]
  show stepOk (whE a b c d e f) (2 * (a + (b + (c + (d + (e + (f + (0)))))))) (ap03 a b c d e f) (nf (cr0 (0 + a + b + c) (0 - a) (0 - b) (0 - a) (0 + a + d + e) (0 - d) (0 - b) (0 - d) (0 + b + d + f) (0 + a + b + c) (0 + a + d + e) (0 + b + d + f)) (whE a b c d e f)) (nf (cr2 (0 + a + d + e) (0 - d) (0 - e) (0 - d) (0 + b + d + f) (0 - f) (0 - e) (0 - f) (0 + c + e + f) (0 + a + d + e) (0 + b + d + f) (0 + c + e + f)) (whE a b c d e f)) = true
  exact stepOk_of (whE_pos H) (wh_na H K) (cr_bd (n00 H K) (na_ H K) (nb_ H K) (na_ H K) (n11 H K) (nd_ H K) (nb_ H K) (nd_ H K) (n22 H K) (n00 H K) (n11 H K) (n22 H K)).1 (cr_bd (n11 H K) (nd_ H K) (ne_ H K) (nd_ H K) (n22 H K) (nf_ H K) (ne_ H K) (nf_ H K) (n33 H K) (n11 H K) (n22 H K) (n33 H K)).2.2 (two_bd H K) (ap03_na H K) (sum03 a b c d e f)
omit H K in
theorem sum12 (a b c d e f : Int) : cr1 (0 + a + b + c) (0 - a) (0 - c) (0 - a) (0 + a + d + e) (0 - e) (0 - c) (0 - e) (0 + c + e + f) (0 + a + b + c) (0 + a + d + e) (0 + c + e + f) + cr1 (0 + a + b + c) (0 - b) (0 - c) (0 - b) (0 + b + d + f) (0 - f) (0 - c) (0 - f) (0 + c + e + f) (0 + a + b + c) (0 + b + d + f) (0 + c + e + f) = 2 * (a + (b + (c + (d + (e + (f + (0))))))) * ap12 a b c d e f := by simp only [cr0, cr1, cr2, ap12]; grind
theorem st12 : stepsOk 4 (M4 a b c d e f) (whE a b c d e f) (2 * (a + (b + (c + (d + (e + (f + (0)))))))) (1, 2, d) = true := by
  unfold stepsOk
  rw [apf12 H K, sol2 H K, sol1 H K]
  show stepOk (whE a b c d e f) (2 * (a + (b + (c + (d + (e + (f + (0)))))))) (ap12 a b c d e f) (nf (cr1 (0 + a + b + c) (0 - a) (0 - c) (0 - a) (0 + a + d + e) (0 - e) (0 - c) (0 - e) (0 + c + e + f) (0 + a + b + c) (0 + a + d + e) (0 + c + e + f)) (whE a b c d e f)) (nf (cr1 (0 + a + b + c) (0 - b) (0 - c) (0 - b) (0 + b + d + f) (0 - f) (0 - c) (0 - f) (0 + c + e + f) (0 + a + b + c) (0 + b + d + f) (0 + c + e + f)) (whE a b c d e f)) = true
  exact stepOk_of (whE_pos H) (wh_na H K) (cr_bd (n00 H K) (na_ H K) (nc_ H K) (na_ H K) (n11 H K) (ne_ H K) (nc_ H K) (ne_ H K) (n33 H K) (n00 H K) (n11 H K) (n33 H K)).2.1 (cr_bd (n00 H K) (nb_ H K) (nc_ H K) (nb_ H K) (n22 H K) (nf_ H K) (nc_ H K) (nf_ H K) (n33 H K) (n00 H K) (n22 H K) (n33 H K)).2.1 (two_bd H K) (ap12_na H K) (sum12 a b c d e f)
omit H K in
theorem sum13 (a b c d e f : Int) : cr1 (0 + a + b + c) (0 - a) (0 - b) (0 - a) (0 + a + d + e) (0 - d) (0 - b) (0 - d) (0 + b + d + f) (0 + a + b + c) (0 + a + d + e) (0 + b + d + f) + cr2 (0 + a + b + c) (0 - b) (0 - c) (0 - b) (0 + b + d + f) (0 - f) (0 - c) (0 - f) (0 + c + e + f) (0 + a + b + c) (0 + b + d + f) (0 + c + e + f) = 2 * (a + (b + (c + (d + (e + (f + (0))))))) * ap13 a b c d e f := by simp only [cr0, cr1, cr2, ap13]; grind
theorem st13 : stepsOk 4 (M4 a b c d e f) (whE a b c d e f) (2 * (a + (b + (c + (d + (e + (f + (0)))))))) (1, 3, e) = true := by
  unfold stepsOk
  rw [apf13 H K, sol3 H K, sol1 H K]
  show stepOk (whE a b c d e f) (2 * (a + (b + (c + (d + (e + (f + (0)))))))) (ap13 a b c d e f) (nf (cr1 (0 + a + b + c) (0 - a) (0 - b) (0 - a) (0 + a + d + e) (0 - d) (0 - b) (0 - d) (0 + b + d + f) (0 + a + b + c) (0 + a + d + e) (0 + b + d + f)) (whE a b c d e f)) (nf (cr2 (0 + a + b + c) (0 - b) (0 - c) (0 - b) (0 + b + d + f) (0 - f) (0 - c) (0 - f) (0 + c + e + f) (0 + a + b + c) (0 + b + d + f) (0 + c + e + f)) (whE a b c d e f)) = true
  exact stepOk_of (whE_pos H) (wh_na H K) (cr_bd (n00 H K) (na_ H K) (nb_ H K) (na_ H K) (n11 H K) (nd_ H K) (nb_ H K) (nd_ H K) (n22 H K) (n00 H K) (n11 H K) (n22 H K)).2.1 (cr_bd (n00 H K) (nb_ H K) (nc_ H K) (nb_ H K) (n22 H K) (nf_ H K) (nc_ H K) (nf_ H K) (n33 H K) (n00 H K) (n22 H K) (n33 H K)).2.2 (two_bd H K) (ap13_na H K) (sum13 a b c d e f)
omit H K in
theorem sum23 (a b c d e f : Int) : cr2 (0 + a + b + c) (0 - a) (0 - b) (0 - a) (0 + a + d + e) (0 - d) (0 - b) (0 - d) (0 + b + d + f) (0 + a + b + c) (0 + a + d + e) (0 + b + d + f) + cr2 (0 + a + b + c) (0 - a) (0 - c) (0 - a) (0 + a + d + e) (0 - e) (0 - c) (0 - e) (0 + c + e + f) (0 + a + b + c) (0 + a + d + e) (0 + c + e + f) = 2 * (a + (b + (c + (d + (e + (f + (0))))))) * ap23 a b c d e f := by simp only [cr0, cr1, cr2, ap23]; grind
theorem st23 : stepsOk 4 (M4 a b c d e f) (whE a b c d e f) (2 * (a + (b + (c + (d + (e + (f + (0)))))))) (2, 3, f) = true := by
  unfold stepsOk
  rw [apf23 H K, sol3 H K, sol2 H K]
  show stepOk (whE a b c d e f) (2 * (a + (b + (c + (d + (e + (f + (0)))))))) (ap23 a b c d e f) (nf (cr2 (0 + a + b + c) (0 - a) (0 - b) (0 - a) (0 + a + d + e) (0 - d) (0 - b) (0 - d) (0 + b + d + f) (0 + a + b + c) (0 + a + d + e) (0 + b + d + f)) (whE a b c d e f)) (nf (cr2 (0 + a + b + c) (0 - a) (0 - c) (0 - a) (0 + a + d + e) (0 - e) (0 - c) (0 - e) (0 + c + e + f) (0 + a + b + c) (0 + a + d + e) (0 + c + e + f)) (whE a b c d e f)) = true
  exact stepOk_of (whE_pos H) (wh_na H K) (cr_bd (n00 H K) (na_ H K) (nb_ H K) (na_ H K) (n11 H K) (nd_ H K) (nb_ H K) (nd_ H K) (n22 H K) (n00 H K) (n11 H K) (n22 H K)).2.2 (cr_bd (n00 H K) (na_ H K) (nc_ H K) (na_ H K) (n11 H K) (ne_ H K) (nc_ H K) (ne_ H K) (n33 H K) (n00 H K) (n11 H K) (n33 H K)).2.2 (two_bd H K) (ap23_na H K) (sum23 a b c d e f)
end
end Mine
-- K5
set_option maxHeartbeats 4000000
namespace Mine
open PySem PySem.W PyProof.Rows
theorem eqO_of {o : Option Int} {v : Int} (h : o = some v) : eqO o v = true := by
  rw [h]; exact beq_self_eq_true v
theorem le6_of {x : Int} (h : x.natAbs ≤ 1000000) : le6 x = true := by unfold le6; exact Nat.ble_eq_true_of_le h
theorem idE00 (a b c d e f : Int) : cr0 (0 + a + d + e) (0 - d) (0 - e) (0 - d) (0 + b + d + f) (0 - f) (0 - e) (0 - f) (0 + c + e + f) 1 0 0 = ap01 a b c d e f := by unfold cr0 ap01; grind
theorem idE11 (a b c d e f : Int) : cr1 (0 + a + d + e) (0 - d) (0 - e) (0 - d) (0 + b + d + f) (0 - f) (0 - e) (0 - f) (0 + c + e + f) 0 1 0 = ap02 a b c d e f := by unfold cr1 ap02; grind
theorem idE22 (a b c d e f : Int) : cr2 (0 + a + d + e) (0 - d) (0 - e) (0 - d) (0 + b + d + f) (0 - f) (0 - e) (0 - f) (0 + c + e + f) 0 0 1 = ap03 a b c d e f := by unfold cr2 ap03; grind
theorem idX01 (a b c d e f : Int) : cr0 (0 + a + d + e) (0 - d) (0 - e) (0 - d) (0 + b + d + f) (0 - f) (0 - e) (0 - f) (0 + c + e + f) 0 1 0 = c * d + d * e + d * f + e * f := by unfold cr0; grind
theorem idX02 (a b c d e f : Int) : cr0 (0 + a + d + e) (0 - d) (0 - e) (0 - d) (0 + b + d + f) (0 - f) (0 - e) (0 - f) (0 + c + e + f) 0 0 1 = b * e + d * e + d * f + e * f := by unfold cr0; grind
theorem idX12 (a b c d e f : Int) : cr1 (0 + a + d + e) (0 - d) (0 - e) (0 - d) (0 + b + d + f) (0 - f) (0 - e) (0 - f) (0 + c + e + f) 0 0 1 = a * f + d * e + d * f + e * f := by unfold cr1; grind
theorem idP12 (a b c d e f : Int) : ap01 a b c d e f + ap02 a b c d e f - 2 * (c * d + d * e + d * f + e * f) = ap12 a b c d e f := by unfold ap01 ap02 ap12; grind
theorem idP13 (a b c d e f : Int) : ap01 a b c d e f + ap03 a b c d e f - 2 * (b * e + d * e + d * f + e * f) = ap13 a b c d e f := by unfold ap01 ap03 ap13; grind
theorem idP23 (a b c d e f : Int) : ap02 a b c d e f + ap03 a b c d e f - 2 * (a * f + d * e + d * f + e * f) = ap23 a b c d e f := by unfold ap02 ap03 ap23; grind
theorem s6 {x1 x2 x3 x4 x5 x6 : Int} (a1 : 0 < x1) (b1 : x1 ≤ 72) (a2 : 0 < x2) (b2 : x2 ≤ 72) (a3 : 0 < x3) (b3 : x3 ≤ 72) (a4 : 0 < x4) (b4 : x4 ≤ 72) (a5 : 0 < x5) (b5 : x5 ≤ 72) (a6 : 0 < x6) (b6 : x6 ≤ 72) : (x1 + (x2 + (x3 + (x4 + (x5 + (x6 + 0)))))).natAbs ≤ 1000 := by omega
theorem neg_bd {x : Int} (h : (0 - x).natAbs ≤ 1000) : x.natAbs ≤ 1000 := by omega
theorem s4 {x1 x2 x3 x4 : Int} (a1 : 0 ≤ x1) (b1 : x1 ≤ 9) (a2 : 0 ≤ x2) (b2 : x2 ≤ 9) (a3 : 0 ≤ x3) (b3 : x3 ≤ 9) (a4 : 0 ≤ x4) (b4 : x4 ≤ 9) : (x1 + x2 + x3 + x4).natAbs ≤ 1000 := by omega
theorem idE (a b c d e f : Int) : a * ap01 a b c d e f + (b * ap02 a b c d e f + (c * ap03 a b c d e f + (d * ap12 a b c d e f + (e * ap13 a b c d e f + (f * ap23 a b c d e f + 0))))) = (((4 : Nat) : Int) - 1) * whE a b c d e f := by unfold ap01 ap02 ap03 ap12 ap13 ap23 whE; grind
section
variable {a b c d e f : Int} (H : Lo a b c d e f) (K : Up a b c d e f)
include H K
theorem apfs : (ls4 a b c d e f).map (apf 4 (M4 a b c d e f)) = [ap01 a b c d e f, ap02 a b c d e f, ap03 a b c d e f, ap12 a b c d e f, ap13 a b c d e f, ap23 a b c d e f] := by
  show [apf 4 (M4 a b c d e f) (0, 1, a), apf 4 (M4 a b c d e f) (0, 2, b), apf 4 (M4 a b c d e f) (0, 3, c), apf 4 (M4 a b c d e f) (1, 2, d), apf 4 (M4 a b c d e f) (1, 3, e), apf 4 (M4 a b c d e f) (2, 3, f)] = _
  rw [apf01 H K, apf02 H K, apf03 H K, apf12 H K, apf13 H K, apf23 H K]
theorem mb4 : MB 10 (M4 a b c d e f) := by
  refine ⟨Nat.le_refl 4, fun r hr => ?_⟩
  simp only [M4, List.mem_cons, List.not_mem_nil, or_false] at hr
  rcases hr with rfl | rfl | rfl | rfl
  · exact ⟨Nat.le_refl 4, Bd.cons (n00 H K) (Bd.cons (na_ H K) (Bd.cons (nb_ H K) (Bd.cons (nc_ H K) Bd.nil)))⟩
  · exact ⟨Nat.le_refl 4, Bd.cons (na_ H K) (Bd.cons (n11 H K) (Bd.cons (nd_ H K) (Bd.cons (ne_ H K) Bd.nil)))⟩
  · exact ⟨Nat.le_refl 4, Bd.cons (nb_ H K) (Bd.cons (nd_ H K) (Bd.cons (n22 H K) (Bd.cons (nf_ H K) Bd.nil)))⟩
  · exact ⟨Nat.le_refl 4, Bd.cons (nc_ H K) (Bd.cons (ne_ H K) (Bd.cons (nf_ H K) (Bd.cons (n33 H K) Bd.nil)))⟩
theorem ck_w3 : w3All (ls4 a b c d e f) = true := by
  obtain ⟨ha, hb, hc, hd, he, hf⟩ := H
  obtain ⟨ka, kb, kc, kd, ke, kf⟩ := K
  unfold w3All
  rw [List.all_eq_true]
  intro l hl
  simp only [ls4, List.mem_cons, List.not_mem_nil, or_false] at hl
  rcases hl with rfl | rfl | rfl | rfl | rfl | rfl <;> (refine Nat.ble_eq_true_of_le ?_; show Int.natAbs _ ≤ 3; dsimp only; omega)
theorem ck_knots : knotsOk 4 (M4 a b c d e f) (whE a b c d e f) = true := by
  show (eqO (detP (woP 4 [0] (M4 a b c d e f))) (whE a b c d e f) && (eqO (detP (woP 4 [1] (M4 a b c d e f))) (whE a b c d e f) && (eqO (detP (woP 4 [2] (M4 a b c d e f))) (whE a b c d e f) && (eqO (detP (woP 4 [3] (M4 a b c d e f))) (whE a b c d e f) && true)))) = true
  rw [eqO_of (kn0 H K), eqO_of (kn1 H K), eqO_of (kn2 H K), eqO_of (kn3 H K)]; rfl
theorem ck_tot : totOk 4 (ls4 a b c d e f) (M4 a b c d e f) (whE a b c d e f) = true := by
  unfold totOk
  rw [apfs H K, beq_iff_eq]
  exact idE a b c d e f
theorem ck_wid : widAll 4 (M4 a b c d e f) (whE a b c d e f) (ls4 a b c d e f) = true := by
  have T : ∀ {l : Line} {g : Int → Option Int} {ap : Int}, apf 4 (M4 a b c d e f) l = ap → (∀ mo, 1 ≤ mo → mo ≤ 3 → g mo = some (whE a b c d e f + mo * ap)) → ([1, 2, 3].all fun mo : Int => eqO (g mo) (whE a b c d e f + mo * apf 4 (M4 a b c d e f) l)) = true := by
    intro l g ap h1 h2
    rw [h1, List.all_eq_true]
    intro mo hmo
    simp only [List.mem_cons, List.not_mem_nil, or_false] at hmo
    exact eqO_of (h2 mo (by omega) (by omega))
  unfold widAll
  rw [List.all_eq_true]
  intro l hl
  simp only [ls4, List.mem_cons, List.not_mem_nil, or_false] at hl
  rcases hl with rfl | rfl | rfl | rfl | rfl | rfl
  · exact T (apf01 H K) fun mo m1 m3 => wid01 H K m1 m3
  · exact T (apf02 H K) fun mo m1 m3 => wid02 H K m1 m3
  · exact T (apf03 H K) fun mo m1 m3 => wid03 H K m1 m3
  · exact T (apf12 H K) fun mo m1 m3 => wid12 H K m1 m3
  · exact T (apf13 H K) fun mo m1 m3 => wid13 H K m1 m3
  · exact T (apf23 H K) fun mo m1 m3 => wid23 H K m1 m3
theorem ck_steps : ((ls4 a b c d e f).all fun l => stepsOk 4 (M4 a b c d e f) (whE a b c d e f) (2 * ((ls4 a b c d e f).map fun l => l.2.2).sum) l) = true := by
  rw [List.all_eq_true]
  intro l hl
  simp only [ls4, List.mem_cons, List.not_mem_nil, or_false] at hl
  rcases hl with rfl | rfl | rfl | rfl | rfl | rfl
  · exact st01 H K
  · exact st02 H K
  · exact st03 H K
  · exact st12 H K
  · exact st13 H K
  · exact st23 H K
theorem u1_bd : (u1E a b c d e f).natAbs ≤ 100 := by
  obtain ⟨ha, hb, hc, hd, he, hf⟩ := H
  obtain ⟨ka, kb, kc, kd, ke, kf⟩ := K
  unfold u1E; omega
theorem u2_bd : (u2E a b c d e f).natAbs ≤ 1000 := by
  have h := ch_sum a b c d e f
  have := s6 (ap01_pos H) (ap01_le H K) (ap02_pos H) (ap02_le H K) (ap03_pos H) (ap03_le H K) (ap12_pos H) (ap12_le H K) (ap13_pos H) (ap13_le H K) (ap23_pos H) (ap23_le H K)
  rw [← h] at this
  exact neg_bd this
theorem ck_char : charOk 4 U4 (M4 a b c d e f) (whE a b c d e f) (ls4 a b c d e f) = true := by
  have hap := ch_sum a b c d e f
  unfold charOk
  rw [char4 (mb4 H K) (u1_bd H K) (u2_bd H K) (wh_na H K), apfs H K]
  show (eq3 [0 - 0, 0 - 4 * whE a b c d e f, 0 - u2E a b c d e f] [0, 0 - sgn 4 * ((4 : Nat) : Int) * whE a b c d e f, sgn 4 * (ap01 a b c d e f + (ap02 a b c d e f + (ap03 a b c d e f + (ap12 a b c d e f + (ap13 a b c d e f + (ap23 a b c d e f + 0))))))] && Nat.ble 5 10) = true
  rw [← hap, show sgn 4 = 1 from rfl, show (1 : Int) * ((4 : Nat) : Int) = 4 from rfl, Int.one_mul]
  show ((0 - 0 == (0 : Int)) && (0 - 4 * whE a b c d e f == 0 - 4 * whE a b c d e f) && (0 - u2E a b c d e f == 0 - u2E a b c d e f) && true) = true
  rw [beq_self_eq_true, beq_self_eq_true]; rfl
theorem ck_inv : smallW (3 + 3) (augU 3 (woP 4 [0] (M4 a b c d e f)) U3) = true := by
  show smallW 6 [[0 + a + d + e, 0 - d, 0 - e, 1, 0, 0], [0 - d, 0 + b + d + f, 0 - f, 0, 1, 0], [0 - e, 0 - f, 0 + c + e + f, 0, 0, 1]] = true
  have u0 : (0 : Int).natAbs ≤ 1000 := by decide
  have u1 : (1 : Int).natAbs ≤ 1000 := by decide
  exact smallW3 rfl rfl rfl (Bd.cons (w3k (n11 H K)) (Bd.cons (w3k (nd_ H K)) (Bd.cons (w3k (ne_ H K)) (Bd.cons u1 (Bd.cons u0 (Bd.cons u0 Bd.nil))))))
    (Bd.cons (w3k (nd_ H K)) (Bd.cons (w3k (n22 H K)) (Bd.cons (w3k (nf_ H K)) (Bd.cons u0 (Bd.cons u1 (Bd.cons u0 Bd.nil))))))
    (Bd.cons (w3k (ne_ H K)) (Bd.cons (w3k (nf_ H K)) (Bd.cons (w3k (n33 H K)) (Bd.cons u0 (Bd.cons u0 (Bd.cons u1 Bd.nil))))))
/-- one pair's checks -/
theorem pf_one {t : Nat} {l : Line} {ap : Int} {T : List (List Q)} {r : List Line} (h1 : apO 4 (M4 a b c d e f) l = some ap) (p : 0 < ap) (q : ap ≤ 72) (hw : wt (ls4 a b c d e f) t * ap = ((ways4.filter (hasI t)).map (worthI (ls4 a b c d e f))).sum)
    (hp : pairOk T l.1 l.2.1 ap (whE a b c d e f) = true) (hr : pfAll (ls4 a b c d e f) ways4 4 (M4 a b c d e f) (whE a b c d e f) T (t + 1) r = true) : pfAll (ls4 a b c d e f) ways4 4 (M4 a b c d e f) (whE a b c d e f) T t (l :: r) = true := by
  have h2 : apf 4 (M4 a b c d e f) l = ap := by unfold apf; rw [h1]; rfl
  have n := na (B := 72) p q
  unfold pfAll
  rw [h1, h2, le6_of (Nat.le_trans n (by decide)), le6_of (Nat.le_trans (bmul (wt3 (ck_w3 H K) t) n) (by decide)), beq_iff_eq.mpr hw, hp, hr]; rfl
theorem inv_rows : ∃ rows, echI 3 0 ((augU 3 (woP 4 [0] (M4 a b c d e f)) U3).map row1) = some rows ∧ toldOf 3 rows = [[nf (cr0 (0 + a + d + e) (0 - d) (0 - e) (0 - d) (0 + b + d + f) (0 - f) (0 - e) (0 - f) (0 + c + e + f) 1 0 0) (whE a b c d e f), nf (cr0 (0 + a + d + e) (0 - d) (0 - e) (0 - d) (0 + b + d + f) (0 - f) (0 - e) (0 - f) (0 + c + e + f) 0 1 0) (whE a b c d e f), nf (cr0 (0 + a + d + e) (0 - d) (0 - e) (0 - d) (0 + b + d + f) (0 - f) (0 - e) (0 - f) (0 + c + e + f) 0 0 1) (whE a b c d e f)], [nf (cr1 (0 + a + d + e) (0 - d) (0 - e) (0 - d) (0 + b + d + f) (0 - f) (0 - e) (0 - f) (0 + c + e + f) 1 0 0) (whE a b c d e f), nf (cr1 (0 + a + d + e) (0 - d) (0 - e) (0 - d) (0 + b + d + f) (0 - f) (0 - e) (0 - f) (0 + c + e + f) 0 1 0) (whE a b c d e f), nf (cr1 (0 + a + d + e) (0 - d) (0 - e) (0 - d) (0 + b + d + f) (0 - f) (0 - e) (0 - f) (0 + c + e + f) 0 0 1) (whE a b c d e f)], [nf (cr2 (0 + a + d + e) (0 - d) (0 - e) (0 - d) (0 + b + d + f) (0 - f) (0 - e) (0 - f) (0 + c + e + f) 1 0 0) (whE a b c d e f), nf (cr2 (0 + a + d + e) (0 - d) (0 - e) (0 - d) (0 + b + d + f) (0 - f) (0 - e) (0 - f) (0 + c + e + f) 0 1 0) (whE a b c d e f), nf (cr2 (0 + a + d + e) (0 - d) (0 - e) (0 - d) (0 + b + d + f) (0 - f) (0 - e) (0 - f) (0 + c + e + f) 0 0 1) (whE a b c d e f)]] :=
  inv3T (p := 0 + a + d + e) (u := 0 - d) (v := 0 - e) (u' := 0 - d) (q := 0 + b + d + f) (w := 0 - f) (v' := 0 - e) (w' := 0 - f) (r := 0 + c + e + f) (D := whE a b c d e f) (p11 H) (pos_of (ld03 a b c d e f) (ap03_pos H)) (dk0 a b c d e f) (whE_pos H)
    (n11 H K) (nd_ H K) (ne_ H K) (nd_ H K) (n22 H K) (nf_ H K) (ne_ H K) (nf_ H K) (n33 H K)
theorem ck_pf : pfAll (ls4 a b c d e f) ways4 4 (M4 a b c d e f) (whE a b c d e f) [[nf (cr0 (0 + a + d + e) (0 - d) (0 - e) (0 - d) (0 + b + d + f) (0 - f) (0 - e) (0 - f) (0 + c + e + f) 1 0 0) (whE a b c d e f), nf (cr0 (0 + a + d + e) (0 - d) (0 - e) (0 - d) (0 + b + d + f) (0 - f) (0 - e) (0 - f) (0 + c + e + f) 0 1 0) (whE a b c d e f), nf (cr0 (0 + a + d + e) (0 - d) (0 - e) (0 - d) (0 + b + d + f) (0 - f) (0 - e) (0 - f) (0 + c + e + f) 0 0 1) (whE a b c d e f)], [nf (cr1 (0 + a + d + e) (0 - d) (0 - e) (0 - d) (0 + b + d + f) (0 - f) (0 - e) (0 - f) (0 + c + e + f) 1 0 0) (whE a b c d e f), nf (cr1 (0 + a + d + e) (0 - d) (0 - e) (0 - d) (0 + b + d + f) (0 - f) (0 - e) (0 - f) (0 + c + e + f) 0 1 0) (whE a b c d e f), nf (cr1 (0 + a + d + e) (0 - d) (0 - e) (0 - d) (0 + b + d + f) (0 - f) (0 - e) (0 - f) (0 + c + e + f) 0 0 1) (whE a b c d e f)], [nf (cr2 (0 + a + d + e) (0 - d) (0 - e) (0 - d) (0 + b + d + f) (0 - f) (0 - e) (0 - f) (0 + c + e + f) 1 0 0) (whE a b c d e f), nf (cr2 (0 + a + d + e) (0 - d) (0 - e) (0 - d) (0 + b + d + f) (0 - f) (0 - e) (0 - f) (0 + c + e + f) 0 1 0) (whE a b c d e f), nf (cr2 (0 + a + d + e) (0 - d) (0 - e) (0 - d) (0 + b + d + f) (0 - f) (0 - e) (0 - f) (0 + c + e + f) 0 0 1) (whE a b c d e f)]] 0 (ls4 a b c d e f) = true := by
  have a0 := one0 H.a
  have d0 := one0 H.d
  have f0 := one0 H.f
  have b3 := two3 K.b
  have c3 := two3 K.c
  have e3 := two3 K.e
  have hw := whE_pos H
  have hn := wh_na H K
  rw [idE00, idE11, idE22, idX01, idX02, idX12]
  refine pf_one H K (apO01 H K) (ap01_pos H) (ap01_le H K) (part0 a b c d e f).symm (pair0 hw rfl (ap01_na H K)) ?_
  refine pf_one H K (apO02 H K) (ap02_pos H) (ap02_le H K) (part1 a b c d e f).symm (pair0 hw rfl (ap02_na H K)) ?_
  refine pf_one H K (apO03 H K) (ap03_pos H) (ap03_le H K) (part2 a b c d e f).symm (pair0 hw rfl (ap03_na H K)) ?_
  refine pf_one H K (apO12 H K) (ap12_pos H) (ap12_le H K) (part3 a b c d e f).symm (pairS hw hn (ap01_na H K) (ap02_na H K) (s4 (nn2 H.c d0) (ub2 H.c c3 d0 K.d) (nn2 d0 H.e) (ub2 d0 K.d H.e e3) (nn2 d0 f0) (ub2 d0 K.d f0 K.f) (nn2 H.e f0) (ub2 H.e e3 f0 K.f)) (idP12 a b c d e f) (ap12_na H K)) ?_
  refine pf_one H K (apO13 H K) (ap13_pos H) (ap13_le H K) (part4 a b c d e f).symm (pairS hw hn (ap01_na H K) (ap03_na H K) (s4 (nn2 H.b H.e) (ub2 H.b b3 H.e e3) (nn2 d0 H.e) (ub2 d0 K.d H.e e3) (nn2 d0 f0) (ub2 d0 K.d f0 K.f) (nn2 H.e f0) (ub2 H.e e3 f0 K.f)) (idP13 a b c d e f) (ap13_na H K)) ?_
  exact pf_one H K (apO23 H K) (ap23_pos H) (ap23_le H K) (part5 a b c d e f).symm (pairS hw hn (ap02_na H K) (ap03_na H K) (s4 (nn2 a0 f0) (ub2 a0 K.a f0 K.f) (nn2 d0 H.e) (ub2 d0 K.d H.e e3) (nn2 d0 f0) (ub2 d0 K.d f0 K.f) (nn2 H.e f0) (ub2 H.e e3 f0 K.f)) (idP23 a b c d e f) (ap23_na H K)) rfl
theorem ck_all : chk4 a b c d e f = true := by
  have htwo : small (2 * ((ls4 a b c d e f).map fun l => l.2.2).sum) = true := smB (two_bd H K) (by decide)
  obtain ⟨rows, hr, hT⟩ := inv_rows H K
  have hpf := ck_pf H K
  rw [← hT] at hpf
  have hsq : sqT 3 (toldOf 3 rows) = true := by rw [hT]; rfl
  show (fun (wh two : Int) => midM (M4 a b c d e f) && w3All (ls4 a b c d e f) && small two && knotsOk 4 (M4 a b c d e f) wh && totOk 4 (ls4 a b c d e f) (M4 a b c d e f) wh && widAll 4 (M4 a b c d e f) wh (ls4 a b c d e f) && ((ls4 a b c d e f).all fun l => stepsOk 4 (M4 a b c d e f) wh two l) && charOk 4 U4 (M4 a b c d e f) wh (ls4 a b c d e f) &&
    smallW (3 + 3) (augU 3 (woP 4 [0] (M4 a b c d e f)) U3) && (match echI 3 0 ((augU 3 (woP 4 [0] (M4 a b c d e f)) U3).map row1) with
    | none => false
    | some rows => sqT 3 (toldOf 3 rows) && pfAll (ls4 a b c d e f) ways4 4 (M4 a b c d e f) wh (toldOf 3 rows) 0 (ls4 a b c d e f))) ((ways4.map (worthI (ls4 a b c d e f))).sum) (2 * ((ls4 a b c d e f).map fun l => l.2.2).sum) = true
  rw [wh_eq, hr]
  show (midM (M4 a b c d e f) && w3All (ls4 a b c d e f) && small (2 * ((ls4 a b c d e f).map fun l => l.2.2).sum) && knotsOk 4 (M4 a b c d e f) (whE a b c d e f) && totOk 4 (ls4 a b c d e f) (M4 a b c d e f) (whE a b c d e f) && widAll 4 (M4 a b c d e f) (whE a b c d e f) (ls4 a b c d e f) && ((ls4 a b c d e f).all fun l => stepsOk 4 (M4 a b c d e f) (whE a b c d e f) (2 * ((ls4 a b c d e f).map fun l => l.2.2).sum) l) && charOk 4 U4 (M4 a b c d e f) (whE a b c d e f) (ls4 a b c d e f) &&
    smallW (3 + 3) (augU 3 (woP 4 [0] (M4 a b c d e f)) U3) && (sqT 3 (toldOf 3 rows) && pfAll (ls4 a b c d e f) ways4 4 (M4 a b c d e f) (whE a b c d e f) (toldOf 3 rows) 0 (ls4 a b c d e f))) = true
  rw [(mb4 H K).toMid (by omega), ck_w3 H K, htwo, ck_knots H K, ck_tot H K, ck_wid H K, ck_steps H K, ck_char H K, ck_inv H K, hsq, hpf]; rfl
end
end Mine
-- A1
set_option maxHeartbeats 4000000
namespace Mine
theorem c13 {x : Int} (h : 1 ≤ x) (h' : x ≤ 3) : x = 1 ∨ x = 2 ∨ x = 3 := by omega
theorem c02 {x : Int} (h : 0 ≤ x) (h' : x ≤ 2) : x = 0 ∨ x = 1 ∨ x = 2 := by omega
theorem box3 {a b c : Int} (h : (chk3 a b 1 && chk3 a b 2 && chk3 a b 3) = true) (c1 : 1 ≤ c) (c3 : c ≤ 3) : chk3 a b c = true := by
  simp only [Bool.and_eq_true] at h
  rcases c13 c1 c3 with rfl | rfl | rfl
  · exact h.1.1
  · exact h.1.2
  · exact h.2
theorem t10 : (chk3 1 0 1 && chk3 1 0 2 && chk3 1 0 3) = true := by decide +kernel
theorem t11 : (chk3 1 1 1 && chk3 1 1 2 && chk3 1 1 3) = true := by decide +kernel
theorem t12 : (chk3 1 2 1 && chk3 1 2 2 && chk3 1 2 3) = true := by decide +kernel
theorem t20 : (chk3 2 0 1 && chk3 2 0 2 && chk3 2 0 3) = true := by decide +kernel
theorem t21 : (chk3 2 1 1 && chk3 2 1 2 && chk3 2 1 3) = true := by decide +kernel
theorem t22 : (chk3 2 2 1 && chk3 2 2 2 && chk3 2 2 3) = true := by decide +kernel
theorem t30 : (chk3 3 0 1 && chk3 3 0 2 && chk3 3 0 3) = true := by decide +kernel
theorem t31 : (chk3 3 1 1 && chk3 3 1 2 && chk3 3 1 3) = true := by decide +kernel
theorem t32 : (chk3 3 2 1 && chk3 3 2 2 && chk3 3 2 3) = true := by decide +kernel
theorem all3 : Box3 fun a b c => chk3 a b c = true := by
  intro a b c a1 a3 b0 b2 c1 c3
  refine box3 ?_ c1 c3
  rcases c13 a1 a3 with rfl | rfl | rfl <;> rcases c02 b0 b2 with rfl | rfl | rfl
  · exact t10
  · exact t11
  · exact t12
  · exact t20
  · exact t21
  · exact t22
  · exact t30
  · exact t31
  · exact t32
theorem all4 : Box4 fun a b c d e f => chk4 a b c d e f = true := by
  intro a b c d e f a1 a3 b0 b2 c0 c2 d1 d3 e0 e2 f1 f3
  exact ck_all ⟨a1, b0, c0, d1, e0, f1⟩ ⟨a3, b2, c2, d3, e2, f3⟩
end Mine
-- Head
namespace Mine
open PySem PySem.W PyProof.Rows
set_option maxHeartbeats 8000000
noncomputable def en (P : Params) (s : String) (t : Nat) (v : Value) : DictEntry := { hash := PyData.keyHash P (Str.ofString s), key := .str (Str.ofString s) t, val := v }
noncomputable def K2 (P : Params) : Frag := [(3, { cls := .type "dict", data := .dict #[en P "__name__" 165 (.str (Str.ofString "law_xm0136_01") 458), en P "__doc__" 166 .none, en P "__package__" 167 .none, en P "__loader__" 168 (.builtin "__main__.__loader__#opaque"), en P "__spec__" 169 .none, en P "__annotations__" 170 (.ref 6), en P "__builtins__" 171 (.ref 4), en P "__file__" 173 (.str (Str.ofString "/claim/cut.py") 172), en P "__cached__" 174 .none, en P "CasFail" 219 (.ref 31), en P "gcd" 229 (.ref 41), en P "R0" 234 (.ref 42), en P "R1" 237 (.ref 43), en P "rat" 246 (.ref 50), en P "radd" 254 (.ref 57), en P "rsub" 262 (.ref 64), en P "rmul" 270 (.ref 71), en P "rdiv" 278 (.ref 78), en P "rneg" 285 (.ref 85), en P "shape" 294 (.ref 92), en P "need_shape" 302 (.ref 99), en P "copied" 308 (.ref 104), en P "from_whole" 314 (.ref 109), en P "unit_matrix" 320 (.ref 114), en P "transposed" 326 (.ref 119), en P "dot" 337 (.ref 126), en P "mat_add" 343 (.ref 131), en P "mat_scale" 349 (.ref 136), en P "mat_mul" 355 (.ref 141), en P "trace" 364 (.ref 148), en P "swap_rows" 373 (.ref 155), en P "take_off" 379 (.ref 160), en P "echelon" 385 (.ref 165), en P "inverse" 391 (.ref 170), en P "charpoly" 405 (.ref 177), en P "pivot_row" 416 (.ref 184), en P "bareiss_step" 429 (.ref 191), en P "determinant" 435 (.ref 196), en P "null_base" 451 (.ref 203), en P "solve_system" 457 (.ref 208), en P "_law_draw" 468 (.ref 215), en P "_law_ways" 474 (.ref 220), en P "_law_worth" 484 (.ref 227), en P "_law_matrix" 490 (.ref 232), en P "_law_without" 496 (.ref 237), en P "_law_same" 505 (.ref 244), en P "_law_steps" 511 (.ref 249), en P "law" 517 (.ref 254)] 48 }), (42, { cls := .type "tuple", data := .seq #[.int 0 232, .int 1 233] }), (43, { cls := .type "tuple", data := .seq #[.int 1 235, .int 1 236] })]
noncomputable def vw : Program := { PySem.Challenge.pw_xm0136_01 with main := { PySem.Challenge.pw_xm0136_01.main with body := ([1, 3, 5, 6, 7, 8, 9, 10, 11, 12, 14, 15, 16, 17, 18, 19, 20, 21, 22, 23, 24, 25, 26, 27, 28, 30, 32, 33, 34, 36, 37, 39, 40, 41, 42, 43, 44, 45, 46] : List Nat).filterMap fun i => PySem.Challenge.pw_xm0136_01.main.body[i]? } }
noncomputable def H2 : Hook := kHook K2 [3, 42, 43] (fun _ => rfl)
theorem left2 : LeftO PySem.Challenge.pw_xm0136_01 vw [] (fun s => xlAt vw [] s && recOk (RowW.records PySem.Challenge.rw_xm0136_01.row.toRowW) s) (Hook.obs H2) (Hook.val H2) 2850 := fun w => by kernel_rfl
theorem said_look : looksOpen PySem.Challenge.pw_xm0136_01 = true := look_both (look_both (look_both (look_both (look_both (by decide +kernel) (by decide +kernel)) (by decide +kernel)) (by decide +kernel)) (by decide +kernel)) (by decide +kernel)
theorem said_part : PySem.Challenge.rw_xm0136_01.row.partSaid = true := look_both (look_both (look_both (look_both (look_both (look_both (look_both (look_both (look_both (look_both (look_both (look_both (look_both said_look (by decide +kernel)) (by decide +kernel)) (by decide +kernel)) (by decide +kernel)) (by decide +kernel)) (by decide +kernel)) (by decide +kernel)) (by decide +kernel)) (by decide +kernel)) (by decide +kernel)) (by decide +kernel)) (by decide +kernel)) (by decide +kernel)
theorem said_row : PySem.Challenge.rw_xm0136_01.row.wellSaid = true := look_both (look_both said_part (by decide +kernel)) (by decide +kernel)
theorem said2 : PySem.Challenge.rw_xm0136_01.wellSaid = true := look_both (look_both (look_both (look_both (look_both (look_both (look_both (look_both (look_both (look_both (look_both (look_both (look_both (look_both (look_both (look_both (look_both (look_both said_row (by decide +kernel)) (by decide +kernel)) (by decide +kernel)) (by decide +kernel)) (by decide +kernel)) (by decide +kernel)) (by decide +kernel)) (by decide +kernel)) (by decide +kernel)) (by decide +kernel)) (by decide +kernel)) (by decide +kernel)) (by decide +kernel)) (by decide +kernel)) (by decide +kernel)) (by decide +kernel)) (by decide +kernel)) (by decide +kernel)
theorem hdef2 : defOf vw (Str.ofString "law") = some (rc 46, []) := by kernel_rfl
theorem hp2 : PySem.Challenge.pw_xm0136_01.theDef (Str.ofString "law") = some ((rc 46).params, (rc 46).body, (rc 46).scope) := by kernel_rfl
theorem ok2 : (chainsOk vw && opensWell PySem.Challenge.pw_xm0136_01 && (frees PySem.Challenge.rw_xm0136_01.row.toRowW && PySem.Challenge.rw_xm0136_01.row.within.isEmpty)) = true := look_both (look_both (by decide +kernel) (by decide +kernel)) (look_both (by decide +kernel) (by decide +kernel))
theorem bare2 : PySem.Challenge.pw_xm0136_01.bare := ⟨rfl, rfl, rfl, rfl, rfl, by decide +kernel⟩
theorem hd2 (walk : WalkO vw [] (XL vw []) (Hook.says H2) PySem.Challenge.rw_xm0136_01.row.toRowW (rc 46) [] fun f vs => PySem.call f vs) : PySem.Challenge.rw_xm0136_01.Holds := by
  refine holds_law said2 fun said => ?_
  refine holds_open (q := vw) (loose := []) (Xt := fun s => xlAt vw [] s && recOk (RowW.records PySem.Challenge.rw_xm0136_01.row.toRowW) s) (XP := XL vw []) (Yf := Hook.obs H2) (Ya := Hook.val H2) (YP := Hook.says H2) (N := 2850) left2 (Hook.of H2) (Hook.keeps H2) (fun s e => xl_of s (Bool.and_eq_true_iff.mp e).1) XL.keeps hdef2 hp2 (by kernel_rfl) (fun s e => recFacts_of (Bool.and_eq_true_iff.mp e).2) (by kernel_rfl) said ok2 bare2 ?hw walk
  case hw => w_witness2
end Mine
-- J1
namespace Mine
open PySem PySem.W PyProof.Rows
theorem recs_eq : recsOf vw = ([3, 7, 8, 9, 10, 11, 12, 14, 15, 16, 17, 18, 19, 20, 21, 22, 23, 24, 25, 26, 27, 28, 30, 32, 33, 34, 36, 37, 39, 40, 41, 42, 43, 44, 45, 46] : List Nat).map rc := by kernel_rfl
noncomputable def bnames : List Str := [Str.ofString "abs", Str.ofString "len", Str.ofString "sum", Str.ofString "range", Str.ofString "enumerate", Str.ofString "list", Str.ofString "int"]
noncomputable def held : List Str := startupNames ++ (looseW vw [] ++ ((recsOf vw).map (·.name) ++ ((litsOf vw).map (·.1) ++ (clssOf vw (looseW vw [])).map (·.name))))
theorem free_all : (bnames.all fun x => !held.contains x && !(x == ("__name__" : Str))) = true := by decide +kernel
theorem free_one {x : Str} (h : x ∈ bnames) : held.contains x = false ∧ (x == ("__name__" : Str)) = false := by
  have := List.all_eq_true.mp free_all x h
  rw [Bool.and_eq_true, Bool.not_eq_true', Bool.not_eq_true'] at this
  exact this
theorem at_of {l : List Str} {i : Nat} {x : Str} (h : l[i]? = some x) : x ∈ l := List.mem_of_getElem? h
section
variable {P : Params} {h : Heap} {mg mb : Str → Option Value} {mean : ExcName → Option Value}
theorem fns_of (T : Top vw (looseW vw []) mean mg mb h) : ∀ k ∈ ([3, 7, 8, 9, 10, 11, 12, 14, 15, 16, 17, 18, 19, 20, 21, 22, 23, 24, 25, 26, 27, 28, 30, 32, 33, 34, 36, 37, 39, 40, 41, 42, 43, 44, 45, 46] : List Nat), Fn_ h mg (rc k) := fun k hk =>
  T.fn (rc k) (by rw [recs_eq]; exact List.mem_map.mpr ⟨k, hk, rfl⟩)
theorem free_of (T : Top vw (looseW vw []) mean mg mb h) {x : Str} {v : Value} (h1 : (startupNames ++ (looseW vw [] ++ ((recsOf vw).map (·.name) ++ ((litsOf vw).map (·.1) ++ (clssOf vw (looseW vw [])).map (·.name))))).contains x = false)
    (h2 : (x == ("__name__" : Str)) = false) (h3 : bootBuiltins x = some v) : mg x = none ∧ mb x = some v := by
  have h1' : x ∉ (startupNames ++ (looseW vw [] ++ ((recsOf vw).map (·.name) ++ ((litsOf vw).map (·.1) ++ (clssOf vw (looseW vw [])).map (·.name))))) := fun q => by
    rw [List.contains_iff_mem.mpr q] at h1; cases h1
  simp only [List.mem_append, not_or] at h1'
  obtain ⟨a, b, c, d, e⟩ := h1'
  exact ⟨T.free x a b c d e, (T.builtins x fun q => by rw [beq_iff_eq.mpr q] at h2; cases h2).trans h3⟩
theorem wd_of (KX : (K2 P).In h) (T : Top vw (looseW vw []) mean mg mb h) : Wd h mg mb where
  g := T.g
  b := T.b
  lim := T.nolimit
  b_abs := free_of T (free_one (at_of (i := 0) rfl)).1 (free_one (at_of (i := 0) rfl)).2 (by kernel_rfl)
  b_len := free_of T (free_one (at_of (i := 1) rfl)).1 (free_one (at_of (i := 1) rfl)).2 (by kernel_rfl)
  b_sum := free_of T (free_one (at_of (i := 2) rfl)).1 (free_one (at_of (i := 2) rfl)).2 (by kernel_rfl)
  b_range := free_of T (free_one (at_of (i := 3) rfl)).1 (free_one (at_of (i := 3) rfl)).2 (by kernel_rfl)
  b_enum := free_of T (free_one (at_of (i := 4) rfl)).1 (free_one (at_of (i := 4) rfl)).2 (by kernel_rfl)
  b_list := free_of T (free_one (at_of (i := 5) rfl)).1 (free_one (at_of (i := 5) rfl)).2 (by kernel_rfl)
  b_int := free_of T (free_one (at_of (i := 6) rfl)).1 (free_one (at_of (i := 6) rfl)).2 (by kernel_rfl)
  r0 := ⟨42, 232, 233, mg_of KX T.g (by kernel_rfl), 0, KX _ _ (by kernel_rfl)⟩
  r1 := ⟨43, 235, 236, mg_of KX T.g (by kernel_rfl), 0, KX _ _ (by kernel_rfl)⟩
end
end Mine
-- J2
namespace Mine
open PySem PySem.W PyProof.Rows
theorem repL_ints {h : Heap} {μ : Mu} {vs : List Value} {ns : List Int} (x : IntsAre vs ns) : RepL h μ vs (ns.map D.int) := by
  induction x with
  | nil => exact .nil
  | cons n t _ ih => exact .cons (.int n t) ih
theorem law_goes {prog : Program} {w : World} {P : Params} {s₁ : Shared} {mg mb : Str → Option Value} {mean : ExcName → Option Value} {fa a : Addr} {vs : List Value} {ns : List Int}
    (KX : (K2 P).In s₁.heap) (T : Top vw (looseW vw []) mean mg mb s₁.heap) (hmg : mg (Str.ofString "law") = some (.ref fa))
    (hL : s₁.heap.IsList a vs.toArray) (hI : IntsAre vs ns) (hlaw : ∃ σ', lawF [.scr (ns.map D.int)] [] = some (.bool true, σ')) :
    codeAny (model prog w) callerA (.call (.ref fa) ⟨[.ref a], []⟩) (fun r s' => r = .ok (.ret (.bool true)) ∧ ∃ h' tk', s' = { s₁ with heap := h', toks := tk' } ∧ ∀ b o, s₁.heap.get? b = some o → h'.get? b = some o) s₁ := by
  obtain ⟨σ', e⟩ := hlaw
  obtain ⟨f, o, fd, h1, h2, h3, H⟩ := w_all (prog := prog) (w := w) (wd_of KX T) (fns_of T)
  rw [hmg] at h1; cases h1
  have nomem : ∀ b : Addr, b ∉ (⟨[], []⟩ : Mu) := fun b hb => by rcases hb with hb | hb <;> exact absurd hb List.not_mem_nil
  have S : St s₁.heap s₁.heap ⟨[], []⟩ [] := by
    refine ⟨fun _ _ e => e, rfl, List.nodup_nil, fun b hb => absurd hb (nomem b), ?_, ?_, ?_⟩
    · intro k b e; cases e
    · intro b hb; exact absurd hb List.not_mem_nil
    · intro b hb; exact absurd hb List.not_mem_nil
  have no : a ∉ (⟨[], []⟩ : Mu) := nomem a
  refine codeAny_mono (H callerA s₁ ⟨[], []⟩ [] [.ref a] [.scr (ns.map D.int)] (.bool true) σ' ⟨rfl, ?_, ?_⟩ S (.cons (.scr hL no (repL_ints hI)) .nil) e) fun r s' p => ?_
  · decide
  · decide
  · obtain ⟨v, rfl, h', tk', μ', rfl, x, S', r⟩ := p
    cases r
    exact ⟨rfl, h', tk', rfl, S'.base⟩
end Mine
-- J3
set_option maxHeartbeats 8000000
namespace Mine
theorem law_true (ns : List Int) (h : ns.length ≤ 63) : ∃ σ', lawF [.scr (ns.map D.int)] [] = some (.bool true, σ') := law_true_of all3 all4 ns h
end Mine
open PySem PySem.W PyProof.Rows
theorem PySem.Challenge.cw_xm0136_01_holds : PySem.Challenge.rw_xm0136_01.Holds := by
  refine Mine.hd2 ?_
  k_fill
  intro w s₀ s₁ mg mb G Y fa o pm cd doc dV kV ho hd hcd hD hmg hg args vals as hpre hlay hrd hwl hlo
  have KX := kIn_of Y
  refine Ground.open G ?_
  intro T B D TE TW
  clear D
  wrow_args hpre hlay hrd hwl hlo
  all_goals (
    first | refine callC_kw (enter_call ?_) | refine enter_call ?_ | refine callC_kw (enter_callW ?_) | refine enter_callW ?_ | w_how
    w_top on
    try refine codeAny_mono ?_ (fun _ _ g => GoodW.toG g))
  rename_i hL _ _ _ hI _ hc _
  refine codeAny_mono (Mine.law_goes (KX := KX) (T := T) hmg hL hI (Mine.law_true _ (by omega))) ?_
  rintro r s' ⟨rfl, h', tk', rfl, hk⟩
  refine ⟨.inl ⟨.bool true, .bool true, [], rfl, raisesW_false (by wrow_none_raised), .bool true, ?_, unshared_nil⟩, hk, rfl, hg⟩
  wrow_post
