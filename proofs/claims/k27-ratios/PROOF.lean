import PyProof.Rows.All
import Wide.All
import OpenK.AllK
import Wide.FinOn
import HandS.ForMost
import HandS.Wide
import HandS.Gcd
import HandS.IsInst
import HandS.Style
import HandS.EndBits
import PySem.Challenge.RW_roomsfit_k27_ratios
set_option Elab.async false
set_option linter.all false
set_option maxRecDepth 100000
set_option maxHeartbeats 4000000
/-! The abstract machine: data, store, results; the relation to the layer's heap; the readings' mirrors. -/
namespace G
open PySem PySem.Spec PyProof.Rows L2

/-- a datum: tuples by value, mutable things by their place in the store -/
inductive D where
  | non | bl (b : Bool) | int (i : Int) | str (x : PySem.Str) | ty (n : String) | tup (l : List D) | fzl (l : List D) | ref (n : Nat)
mutual
def D.beq : D → D → Bool
  | .non, .non => true
  | .bl a, .bl b => a == b
  | .int a, .int b => decide (a = b)
  | .str a, .str b => decide (a = b)
  | .ty a, .ty b => decide (a = b)
  | .tup a, .tup b => D.beqs a b
  | .fzl a, .fzl b => D.beqs a b
  | .ref a, .ref b => decide (a = b)
  | _, _ => false
def D.beqs : List D → List D → Bool
  | [], [] => true
  | a :: r, b :: t => D.beq a b && D.beqs r t
  | _, _ => false
end
mutual
theorem D.beq_iff : ∀ a b : D, D.beq a b = true ↔ a = b
  | .non, b => by cases b <;> simp [D.beq]
  | .bl x, b => by cases b <;> simp [D.beq]
  | .int x, b => by cases b <;> simp [D.beq]
  | .str x, b => by cases b <;> simp [D.beq]
  | .ty x, b => by cases b <;> simp [D.beq]
  | .tup x, b => by cases b <;> simp [D.beq]; exact D.beqs_iff x _
  | .fzl x, b => by cases b <;> simp [D.beq]; exact D.beqs_iff x _
  | .ref x, b => by cases b <;> simp [D.beq]
theorem D.beqs_iff : ∀ a b : List D, D.beqs a b = true ↔ a = b
  | [], b => by cases b <;> simp [D.beqs]
  | x :: r, [] => by simp [D.beqs]
  | x :: r, y :: t => by simp only [D.beqs, Bool.and_eq_true, D.beq_iff x y, D.beqs_iff r t, List.cons.injEq]
end
instance : DecidableEq D := fun a b => decidable_of_iff _ (D.beq_iff a b)
inductive O where
  | lst (xs : List D)
  | ins (c : Nat) (fs : List (PySem.Str × D))
  deriving DecidableEq
abbrev Store := List O
/-- how a run ends -/
inductive Rs (α : Type) where
  | ok (a : α) (h : Store)
  | exc (c : Nat) (fs : Option (List (PySem.Str × D))) (h : Store)
  | stuck
abbrev M (α : Type) := Store → Rs α
def ret {α : Type} (a : α) : M α := fun h => .ok a h
def stuck {α : Type} : M α := fun _ => .stuck
def bnd {α β : Type} (m : M α) (f : α → M β) : M β := fun h => match m h with
  | .ok a h' => f a h'
  | .exc c fs h' => .exc c fs h'
  | .stuck => .stuck
abbrev Env := List (Option D)

section
variable (K : PySem.W.Frag) (cls : Nat → Addr)
/-- a list that nothing changes -/
def FzL (H : Hp) (a : Addr) (xs : List V) : Prop := (∃ o, H a = some (.frz o (.lst xs))) ∨
  ∃ (o : Obj) (its : Array Value) (n : Nat), K.lookup a = some o ∧ o.cls = .type "list" ∧ o.dict = none ∧ o.data = .seq its n ∧ its.size ≤ sizeLine ∧ Vals xs its.toList
theorem FzL.sq {H : Hp} {a : Addr} {xs : List V} (q : FzL K H a xs) : SqL K H a xs := by
  rcases q with ⟨o, q⟩ | q
  · exact .inl (.inr ⟨o, q⟩)
  · exact .inr q
mutual
inductive Rep (H : Hp) (μ : List Addr) : V → D → Prop
  | non : Rep H μ .non .non
  | bl (b : Bool) : Rep H μ (.bl b) (.bl b)
  | int (i : Int) : Rep H μ (.int i) (.int i)
  | str (x : PySem.Str) : Rep H μ (.str x) (.str x)
  | ty (n : String) : Rep H μ (.ty n) (.ty n)
  | tup {a : Addr} {xs : List V} {ds : List D} : SqT K H a xs → RepAll H μ xs ds → Rep H μ (.ref a) (.tup ds)
  | fzl {a : Addr} {xs : List V} {ds : List D} : FzL K H a xs → RepAll H μ xs ds → Rep H μ (.ref a) (.fzl ds)
  | ref {n : Nat} {a : Addr} : μ[n]? = some a → Rep H μ (.ref a) (.ref n)
inductive RepAll (H : Hp) (μ : List Addr) : List V → List D → Prop
  | nil : RepAll H μ [] []
  | cons {v : V} {vs : List V} {d : D} {ds : List D} : Rep H μ v d → RepAll H μ vs ds → RepAll H μ (v :: vs) (d :: ds)
end
inductive RepF (H : Hp) (μ : List Addr) : List (PySem.Str × V) → List (PySem.Str × D) → Prop
  | nil : RepF H μ [] []
  | cons {f : PySem.Str} {v : V} {d : D} {vs : List (PySem.Str × V)} {ds : List (PySem.Str × D)} : Rep K H μ v d → RepF H μ vs ds → RepF H μ ((f, v) :: vs) ((f, d) :: ds)
def ObjR (H : Hp) (μ : List Addr) (a : Addr) : O → Prop
  | .lst ds => ∃ xs, H a = some (.lst xs) ∧ RepAll K H μ xs ds
  | .ins c fs => ∃ dx gs, H a = some (.ins (cls c) dx gs) ∧ RepF K H μ gs fs
structure Cfg (μ : List Addr) (H : Hp) (h : Store) : Prop where
  len : μ.length = h.length
  nd : μ.Nodup
  obj : ∀ (n : Nat) (o : O) (a : Addr), h[n]? = some o → μ[n]? = some a → ObjR K cls H μ a o
end
/-- what was known stays: the store's places, and all that is tracked outside of the store -/
structure Ext (μ : List Addr) (H : Hp) (μ' : List Addr) (H' : Hp) : Prop where
  pre : ∃ l, μ' = μ ++ l
  fr : ∀ a o, H a = some o → a ∉ μ → H' a = some o ∧ a ∉ μ'
  mt : ∀ a ∈ μ', a ∈ μ ∨ H a = none

theorem Ext.refl (μ : List Addr) (H : Hp) : Ext μ H μ H := ⟨⟨[], by simp⟩, fun _ _ h n => ⟨h, n⟩, fun _ h => .inl h⟩
theorem Ext.trans {μ μ1 μ2 : List Addr} {H H1 H2 : Hp} (a : Ext μ H μ1 H1) (b : Ext μ1 H1 μ2 H2) : Ext μ H μ2 H2 := by
  obtain ⟨l, e⟩ := a.pre
  obtain ⟨l', e'⟩ := b.pre
  refine ⟨⟨l ++ l', by rw [e', e, List.append_assoc]⟩, fun x o h n => ?_, fun x hx => ?_⟩
  · obtain ⟨h1, n1⟩ := a.fr x o h n
    exact b.fr x o h1 n1
  · rcases b.mt x hx with q | q
    · exact a.mt x q
    · by_cases hm : x ∈ μ
      · exact .inl hm
      · refine .inr ?_
        cases z : H x with
        | none => rfl
        | some o =>
          have := (a.fr x o z hm).1
          rw [q] at this
          cases this
theorem Ext.at {μ μ' : List Addr} {H H' : Hp} (e : Ext μ H μ' H') {n : Nat} {a : Addr} (h : μ[n]? = some a) : μ'[n]? = some a := by
  obtain ⟨l, rfl⟩ := e.pre
  have hn : n < μ.length := by
    obtain ⟨q, _⟩ := List.getElem?_eq_some_iff.mp h
    exact q
  rw [List.getElem?_append_left hn]
  exact h

section
variable {K : PySem.W.Frag} {cls : Nat → Addr} {μ μ' : List Addr} {H H' : Hp} {h h' : Store}
theorem Cfg.at (c : Cfg K cls μ H h) {n : Nat} {o : O} (e : h[n]? = some o) : ∃ a, μ[n]? = some a ∧ ObjR K cls H μ a o := by
  have hn : n < h.length := by
    obtain ⟨q, _⟩ := List.getElem?_eq_some_iff.mp e
    exact q
  have hm : n < μ.length := by rw [c.len]; exact hn
  exact ⟨μ[n], List.getElem?_eq_getElem hm, c.obj n o _ e (List.getElem?_eq_getElem hm)⟩
theorem Cfg.mut (c : Cfg K cls μ H h) {a : Addr} (ha : a ∈ μ) : (∃ xs, H a = some (.lst xs)) ∨ ∃ C dx fs, H a = some (.ins C dx fs) := by
  obtain ⟨n, hn, e⟩ := List.getElem_of_mem ha
  have hm : n < h.length := by rw [← c.len]; exact hn
  have q := c.obj n h[n] a (List.getElem?_eq_getElem hm) (by rw [List.getElem?_eq_getElem hn, e])
  cases z : h[n] with
  | lst ds => rw [z] at q; obtain ⟨xs, q, _⟩ := q; exact .inl ⟨xs, q⟩
  | ins k fs => rw [z] at q; obtain ⟨dx, gs, q, _⟩ := q; exact .inr ⟨_, dx, gs, q⟩
theorem Cfg.free (c : Cfg K cls μ H h) {p : Addr} (hp : H p = none) : p ∉ μ := fun hm => by
  rcases c.mut hm with ⟨_, q⟩ | ⟨_, _, _, q⟩ <;> (rw [hp] at q; cases q)
theorem Cfg.notup (c : Cfg K cls μ H h) {a : Addr} {xs : List V} (e : H a = some (.tup xs)) : a ∉ μ := fun hm => by
  rcases c.mut hm with ⟨_, q⟩ | ⟨_, _, _, q⟩ <;> (rw [e] at q; cases q)
theorem Cfg.nofrz (c : Cfg K cls μ H h) {a : Addr} {o : Obj} {u : HO} (e : H a = some (.frz o u)) : a ∉ μ := fun hm => by
  rcases c.mut hm with ⟨_, q⟩ | ⟨_, _, _, q⟩ <;> (rw [e] at q; cases q)
theorem sqT_ext (c : Cfg K cls μ H h) (e : Ext μ H μ' H') {a : Addr} {xs : List V} (q : SqT K H a xs) : SqT K H' a xs := by
  rcases q with (q | ⟨o, q⟩) | q
  · exact .inl (.inl (e.fr _ _ q (c.notup q)).1)
  · exact .inl (.inr ⟨o, (e.fr _ _ q (c.nofrz q)).1⟩)
  · exact .inr q
theorem fzL_ext (c : Cfg K cls μ H h) (e : Ext μ H μ' H') {a : Addr} {xs : List V} (q : FzL K H a xs) : FzL K H' a xs := by
  rcases q with ⟨o, q⟩ | q
  · exact .inl ⟨o, (e.fr _ _ q (c.nofrz q)).1⟩
  · exact .inr q
mutual
theorem Rep.ext (c : Cfg K cls μ H h) (e : Ext μ H μ' H') : ∀ {v : V} {d : D}, Rep K H μ v d → Rep K H' μ' v d
  | _, _, .non => .non
  | _, _, .bl b => .bl b
  | _, _, .int i => .int i
  | _, _, .str x => .str x
  | _, _, .ty n => .ty n
  | _, _, .tup q r => .tup (sqT_ext c e q) (RepAll.ext c e r)
  | _, _, .fzl q r => .fzl (fzL_ext c e q) (RepAll.ext c e r)
  | _, _, .ref q => .ref (e.at q)
theorem RepAll.ext (c : Cfg K cls μ H h) (e : Ext μ H μ' H') : ∀ {v : List V} {d : List D}, RepAll K H μ v d → RepAll K H' μ' v d
  | _, _, .nil => .nil
  | _, _, .cons q r => .cons (Rep.ext c e q) (RepAll.ext c e r)
end
theorem RepF.ext (c : Cfg K cls μ H h) (e : Ext μ H μ' H') : ∀ {v : List (PySem.Str × V)} {d : List (PySem.Str × D)}, RepF K H μ v d → RepF K H' μ' v d
  | _, _, .nil => .nil
  | _, _, .cons q r => .cons (q.ext c e) (RepF.ext c e r)
theorem ObjR.ext (c : Cfg K cls μ H h) (e : Ext μ H μ' H') {a : Addr} {o : O} (q : ObjR K cls H μ a o) (hk : H' a = H a) : ObjR K cls H' μ' a o := by
  cases o with
  | lst ds => obtain ⟨xs, q, r⟩ := q; exact ⟨xs, by rw [hk]; exact q, r.ext c e⟩
  | ins k fs => obtain ⟨dx, gs, q, r⟩ := q; exact ⟨dx, gs, by rw [hk]; exact q, r.ext c e⟩

mutual
theorem Rep.pre {l : List Addr} : ∀ {v : V} {d : D}, Rep K H μ v d → Rep K H (μ ++ l) v d
  | _, _, .non => .non
  | _, _, .bl b => .bl b
  | _, _, .int i => .int i
  | _, _, .str x => .str x
  | _, _, .ty n => .ty n
  | _, _, .tup q r => .tup q (RepAll.pre r)
  | _, _, .fzl q r => .fzl q (RepAll.pre r)
  | _, _, .ref (n := n) q => .ref (by
      have hn : n < μ.length := by
        obtain ⟨q, _⟩ := List.getElem?_eq_some_iff.mp q
        exact q
      rw [List.getElem?_append_left hn]
      exact q)
theorem RepAll.pre {l : List Addr} : ∀ {v : List V} {d : List D}, RepAll K H μ v d → RepAll K H (μ ++ l) v d
  | _, _, .nil => .nil
  | _, _, .cons q r => .cons (Rep.pre q) (RepAll.pre r)
end
theorem RepF.pre {l : List Addr} : ∀ {v : List (PySem.Str × V)} {d : List (PySem.Str × D)}, RepF K H μ v d → RepF K H (μ ++ l) v d
  | _, _, .nil => .nil
  | _, _, .cons q r => .cons q.pre (RepF.pre r)
theorem ObjR.pre {l : List Addr} {a : Addr} {o : O} (q : ObjR K cls H μ a o) : ObjR K cls H (μ ++ l) a o := by
  cases o with
  | lst ds => obtain ⟨xs, q, r⟩ := q; exact ⟨xs, q, r.pre⟩
  | ins k fs => obtain ⟨dx, gs, q, r⟩ := q; exact ⟨dx, gs, q, r.pre⟩
/-- a new list, a new tuple, a list changed -/
theorem ext_new (c : Cfg K cls μ H h) {p : Addr} {o : HO} (hp : H p = none) : Ext μ H μ (upd H p o) :=
  ⟨⟨[], by simp⟩, fun a u e n => ⟨by rw [upd_ne (ne_of_none e hp)]; exact e, n⟩, fun a h => .inl h⟩
theorem ext_snoc (c : Cfg K cls μ H h) {p : Addr} {o : HO} (hp : H p = none) : Ext μ H (μ ++ [p]) (upd H p o) :=
  ⟨⟨[p], rfl⟩, fun a u e n => ⟨by rw [upd_ne (ne_of_none e hp)]; exact e, fun hm => by
    rcases List.mem_append.mp hm with q | q
    · exact n q
    · exact ne_of_none e hp (List.mem_singleton.mp q)⟩, fun a hm => by
    rcases List.mem_append.mp hm with q | q
    · exact .inl q
    · exact .inr (by rw [List.mem_singleton.mp q]; exact hp)⟩
theorem ext_set {p : Addr} {o : HO} (hm : p ∈ μ) : Ext μ H μ (upd H p o) :=
  ⟨⟨[], by simp⟩, fun a u e n => ⟨by rw [upd_ne (fun z => n (by rw [z]; exact hm))]; exact e, n⟩, fun a h => .inl h⟩
theorem Cfg.out (c : Cfg K cls μ H h) (e : Ext μ H μ H') (hk : ∀ a ∈ μ, H' a = H a) : Cfg K cls μ H' h :=
  ⟨c.len, c.nd, fun n o a h1 h2 => (c.obj n o a h1 h2).ext c e (hk a (List.mem_of_getElem? h2))⟩
theorem Cfg.upd_out (c : Cfg K cls μ H h) {p : Addr} {o : HO} (hp : H p = none) : Cfg K cls μ (upd H p o) h :=
  c.out (ext_new c hp) fun a hm => upd_ne fun z => c.free hp (by rw [← z]; exact hm)
/-- a fresh address whose content stands joins the store -/
theorem Cfg.join (c : Cfg K cls μ H h) {p : Addr} (hp : p ∉ μ) {o : O} (q : ObjR K cls H (μ ++ [p]) p o) : Cfg K cls (μ ++ [p]) H (h ++ [o]) := by
  refine ⟨by rw [List.length_append, List.length_append, c.len]; rfl, ?_, fun n u a h1 h2 => ?_⟩
  · rw [List.nodup_append]
    refine ⟨c.nd, by simp, fun a ha b hb z => hp ?_⟩
    rw [← List.mem_singleton.mp hb, ← z]
    exact ha
  · by_cases hn : n < h.length
    · rw [List.getElem?_append_left hn] at h1
      rw [List.getElem?_append_left (by rw [c.len]; exact hn)] at h2
      exact (c.obj n u a h1 h2).pre
    · have hn' : n = h.length := by
        obtain ⟨q1, _⟩ := List.getElem?_eq_some_iff.mp h1
        rw [List.length_append] at q1
        simp only [List.length_cons, List.length_nil] at q1
        omega
      subst hn'
      rw [List.getElem?_append_right (Nat.le_refl _), Nat.sub_self] at h1
      rw [List.getElem?_append_right (by rw [c.len]; exact Nat.le_refl _), c.len, Nat.sub_self] at h2
      cases h1
      cases h2
      exact q
theorem ext_join (c : Cfg K cls μ H h) {p : Addr} {H0 : Hp} {μ0 : List Addr} (e : Ext μ0 H0 μ H) (hp : H0 p = none) : Ext μ0 H0 (μ ++ [p]) H := by
  obtain ⟨l, el⟩ := e.pre
  refine ⟨⟨l ++ [p], by rw [el, List.append_assoc]⟩, fun a o h1 n => ?_, fun a hm => ?_⟩
  · obtain ⟨q, m⟩ := e.fr a o h1 n
    refine ⟨q, fun z => ?_⟩
    rcases List.mem_append.mp z with z | z
    · exact m z
    · rw [List.mem_singleton.mp z, hp] at h1
      cases h1
  · rcases List.mem_append.mp hm with z | z
    · exact e.mt a z
    · exact .inr (by rw [List.mem_singleton.mp z]; exact hp)
/-- a new list in the store -/
theorem Cfg.new (c : Cfg K cls μ H h) {p : Addr} (hp : H p = none) {xs : List V} {ds : List D} (r : RepAll K H μ xs ds) : Cfg K cls (μ ++ [p]) (upd H p (.lst xs)) (h ++ [.lst ds]) := by
  have c1 : Cfg K cls μ (upd H p (.lst xs)) h := c.upd_out hp
  have e1 : Ext μ H (μ ++ [p]) (upd H p (.lst xs)) := ext_snoc c hp
  exact c1.join (c.free hp) ⟨xs, upd_same, r.ext c e1⟩
theorem Cfg.newI (c : Cfg K cls μ H h) {p : Addr} (hp : H p = none) {k : Nat} {dx : Addr} {gs : List (PySem.Str × V)} {fs : List (PySem.Str × D)} (r : RepF K H μ gs fs) : Cfg K cls (μ ++ [p]) (upd H p (.ins (cls k) dx gs)) (h ++ [.ins k fs]) := by
  have c1 : Cfg K cls μ (upd H p (.ins (cls k) dx gs)) h := c.upd_out hp
  have e1 : Ext μ H (μ ++ [p]) (upd H p (.ins (cls k) dx gs)) := ext_snoc c hp
  exact c1.join (c.free hp) ⟨dx, gs, upd_same, r.ext c e1⟩
/-- an object of the store is changed -/
theorem Cfg.set (c : Cfg K cls μ H h) {n : Nat} {p : Addr} (hp : μ[n]? = some p) {u : HO} {o : O} (q : ObjR K cls (upd H p u) μ p o) : Cfg K cls μ (upd H p u) (h.set n o) := by
  have e : Ext μ H μ (upd H p u) := ext_set (List.mem_of_getElem? hp)
  refine ⟨by rw [List.length_set]; exact c.len, c.nd, fun m w a h1 h2 => ?_⟩
  by_cases hm : m = n
  · subst hm
    rw [hp] at h2
    cases h2
    have hl : m < h.length := by
      obtain ⟨q1, _⟩ := List.getElem?_eq_some_iff.mp h1
      rw [List.length_set] at q1
      exact q1
    rw [List.getElem?_set_self hl] at h1
    cases h1
    exact q
  · rw [List.getElem?_set_ne (Ne.symm hm)] at h1
    refine (c.obj m w a h1 h2).ext c e (upd_ne fun z => hm ?_)
    subst z
    exact (List.getElem?_inj (by
      obtain ⟨q1, _⟩ := List.getElem?_eq_some_iff.mp h2
      exact q1) c.nd).mp (h2.trans hp.symm)
theorem Cfg.setL (c : Cfg K cls μ H h) {n : Nat} {p : Addr} (hp : μ[n]? = some p) {xs : List V} {ds : List D} (r : RepAll K H μ xs ds) : Cfg K cls μ (upd H p (.lst xs)) (h.set n (.lst ds)) :=
  c.set hp ⟨xs, upd_same, r.ext c (ext_set (List.mem_of_getElem? hp))⟩

/-! lists of data -/
theorem RepAll.length : ∀ {vs : List V} {ds : List D}, RepAll K H μ vs ds → vs.length = ds.length
  | _, _, .nil => rfl
  | _, _, .cons _ r => by rw [List.length_cons, List.length_cons, RepAll.length r]
theorem RepAll.get : ∀ {vs : List V} {ds : List D} {i : Nat} {d : D}, RepAll K H μ vs ds → ds[i]? = some d → ∃ v, vs[i]? = some v ∧ Rep K H μ v d
  | _, _, 0, _, .cons q _, e => by cases e; exact ⟨_, rfl, q⟩
  | _, _, i + 1, _, .cons _ r, e => by
    obtain ⟨v, h1, h2⟩ := RepAll.get (i := i) r (by simpa using e)
    exact ⟨v, by simpa using h1, h2⟩
theorem RepAll.set {v : V} {d : D} (q : Rep K H μ v d) : ∀ {vs : List V} {ds : List D} (i : Nat), RepAll K H μ vs ds → RepAll K H μ (vs.set i v) (ds.set i d)
  | _, _, _, .nil => .nil
  | _, _, 0, .cons _ t => .cons q t
  | _, _, i + 1, .cons p t => .cons p (RepAll.set q i t)
theorem RepAll.append : ∀ {vs ws : List V} {ds es : List D}, RepAll K H μ vs ds → RepAll K H μ ws es → RepAll K H μ (vs ++ ws) (ds ++ es)
  | _, _, _, _, .nil, s => s
  | _, _, _, _, .cons r t, s => .cons r (RepAll.append t s)
theorem RepAll.take : ∀ {vs : List V} {ds : List D} (n : Nat), RepAll K H μ vs ds → RepAll K H μ (vs.take n) (ds.take n)
  | _, _, 0, _ => .nil
  | _, _, _ + 1, .nil => .nil
  | _, _, n + 1, .cons r t => .cons r (RepAll.take n t)
theorem RepAll.drop : ∀ {vs : List V} {ds : List D} (n : Nat), RepAll K H μ vs ds → RepAll K H μ (vs.drop n) (ds.drop n)
  | _, _, 0, r => r
  | _, _, _ + 1, .nil => .nil
  | _, _, n + 1, .cons _ t => RepAll.drop n t

/-! the frame's slots -/
inductive EnvR (K : PySem.W.Frag) (H : Hp) (μ : List Addr) : L2.St → Env → Prop
  | nil : EnvR K H μ [] []
  | none {σ : L2.St} {ρ : Env} : EnvR K H μ σ ρ → EnvR K H μ (none :: σ) (none :: ρ)
  | some {σ : L2.St} {ρ : Env} {v : V} {d : D} : Rep K H μ v d → EnvR K H μ σ ρ → EnvR K H μ (some v :: σ) (some d :: ρ)
theorem EnvR.ext (c : Cfg K cls μ H h) (e : Ext μ H μ' H') : ∀ {σ : L2.St} {ρ : Env}, EnvR K H μ σ ρ → EnvR K H' μ' σ ρ
  | _, _, .nil => .nil
  | _, _, .none r => .none (EnvR.ext c e r)
  | _, _, .some q r => .some (q.ext c e) (EnvR.ext c e r)
theorem EnvR.get : ∀ {σ : L2.St} {ρ : Env} {i : Nat} {d : D}, EnvR K H μ σ ρ → ρ[i]? = Option.some (Option.some d) → ∃ v, σ[i]? = Option.some (Option.some v) ∧ Rep K H μ v d
  | _, _, 0, _, .none _, e => by cases e
  | _, _, 0, _, .some q _, e => by cases e; exact ⟨_, rfl, q⟩
  | _, _, i + 1, _, .none r, e => by
    obtain ⟨v, h1, h2⟩ := EnvR.get (i := i) r (by simpa using e)
    exact ⟨v, by simpa using h1, h2⟩
  | _, _, i + 1, _, .some _ r, e => by
    obtain ⟨v, h1, h2⟩ := EnvR.get (i := i) r (by simpa using e)
    exact ⟨v, by simpa using h1, h2⟩
theorem EnvR.set {v : V} {d : D} (q : Rep K H μ v d) : ∀ {σ : L2.St} {ρ : Env} (i : Nat), EnvR K H μ σ ρ → EnvR K H μ (σ.set i (Option.some v)) (ρ.set i (Option.some d))
  | _, _, _, .nil => .nil
  | _, _, 0, .none r => .some q r
  | _, _, 0, .some _ r => .some q r
  | _, _, i + 1, .none r => .none (EnvR.set q i r)
  | _, _, i + 1, .some p r => .some p (EnvR.set q i r)
theorem EnvR.unset : ∀ {σ : L2.St} {ρ : Env} (i : Nat), EnvR K H μ σ ρ → EnvR K H μ (σ.set i Option.none) (ρ.set i Option.none)
  | _, _, _, .nil => .nil
  | _, _, 0, .none r => .none r
  | _, _, 0, .some _ r => .none r
  | _, _, i + 1, .none r => .none (EnvR.unset i r)
  | _, _, i + 1, .some p r => .some p (EnvR.unset i r)
def wipeD (ρ : Env) : List Nat → Env
  | [] => ρ
  | v :: vs => (wipeD ρ vs).set v none
theorem EnvR.wipe {σ : L2.St} {ρ : Env} (r : EnvR K H μ σ ρ) : ∀ vs : List Nat, EnvR K H μ (L2.wipe σ vs) (wipeD ρ vs)
  | [] => r
  | v :: vs => (EnvR.wipe r vs).unset v
theorem EnvR.start {vs : List V} {ds : List D} (n : Nat) : RepAll K H μ vs ds → EnvR K H μ (vs.map Option.some ++ List.replicate n Option.none) (ds.map Option.some ++ List.replicate n Option.none)
  | .nil => by
    induction n with
    | zero => exact .nil
    | succ n ih => exact .none ih
  | .cons q r => .some q (EnvR.start n r)
end

/-! ### what a run must lead to -/
section
variable (K : PySem.W.Frag) (cls : Nat → Addr) (E : XK)
def OkG {α β : Type} (rel : Hp → List Addr → β → α → Prop) (μ : List Addr) (H : Hp) (r : Rs α) (Q : β → Hp → Prop) : Prop := match r with
  | .ok d h' => ∀ v μ' H', Ext μ H μ' H' → Cfg K cls μ' H' h' → rel H' μ' v d → Q v H'
  | .exc c (some fs) h' => ∀ μ' H' dx gs, Ext μ H μ' H' → Cfg K cls μ' H' h' → H' dx = some (.xd gs) → RepF K H' μ' gs fs → E (.ref (cls c)) (some dx) H'
  | .exc c none h' => ∀ μ' H', Ext μ H μ' H' → Cfg K cls μ' H' h' → E (.ref (cls c)) none H'
  | .stuck => False
def rlD (H : Hp) (μ : List Addr) : V → D → Prop := Rep K H μ
def rlA (H : Hp) (μ : List Addr) : List V → List D → Prop := RepAll K H μ
def rlB (_ : Hp) (_ : List Addr) (b b' : Bool) : Prop := b = b'
def rlO (_ : Hp) (_ : List Addr) (b b' : Option Int) : Prop := b = b'
/-- a statement's ways out -/
inductive Fl where | nx (ρ : Env) | rt (d : D) | bk (ρ : Env) | ct (ρ : Env)
inductive FlV where | nx (σ : L2.St) | rt (v : V) | bk (σ : L2.St) | ct (σ : L2.St)
def rlF (H : Hp) (μ : List Addr) : FlV → Fl → Prop
  | .nx σ, .nx ρ => EnvR K H μ σ ρ
  | .rt v, .rt d => Rep K H μ v d
  | .bk σ, .bk ρ => EnvR K H μ σ ρ
  | .ct σ, .ct ρ => EnvR K H μ σ ρ
  | _, _ => False
def flQ (D : Ends) : FlV → Hp → Prop
  | .nx σ, H => D.nx σ H
  | .rt v, H => D.rt v H
  | .bk σ, H => D.bk σ H
  | .ct σ, H => D.ct σ H
end
section
variable {K : PySem.W.Frag} {cls : Nat → Addr} {E : XK} {μ μ' : List Addr} {H H' : Hp} {h h' : Store} {α β γ δ : Type} {rel : Hp → List Addr → β → α → Prop} {rel2 : Hp → List Addr → δ → γ → Prop}
theorem OkG.ext {r : Rs α} {Q : β → Hp → Prop} (e : Ext μ H μ' H') (q : OkG K cls E rel μ H r Q) : OkG K cls E rel μ' H' r Q := by
  cases r with
  | ok d h1 => exact fun v μ1 H1 e1 => q v μ1 H1 (e.trans e1)
  | exc c fs h1 =>
    cases fs with
    | none => exact fun μ1 H1 e1 => q μ1 H1 (e.trans e1)
    | some fs => exact fun μ1 H1 dx gs e1 => q μ1 H1 dx gs (e.trans e1)
  | stuck => exact q
theorem OkG.imp {r : Rs α} {Q Q' : β → Hp → Prop} (q : OkG K cls E rel μ H r Q) (f : ∀ v H, Q v H → Q' v H) : OkG K cls E rel μ H r Q' := by
  cases r with
  | ok d h1 => exact fun v μ1 H1 e1 c1 r1 => f _ _ (q v μ1 H1 e1 c1 r1)
  | exc c fs h1 =>
    cases fs with
    | none => exact q
    | some fs => exact q
  | stuck => exact q
/-- a run, then another -/
theorem OkG.bnd {m : M α} {f : α → M γ} {Q : δ → Hp → Prop} (q : OkG K cls E rel2 μ H (bnd m f h) Q) :
    OkG K cls E rel μ H (m h) fun v H1 => ∃ a h1 μ1, Ext μ H μ1 H1 ∧ Cfg K cls μ1 H1 h1 ∧ rel H1 μ1 v a ∧ OkG K cls E rel2 μ1 H1 (f a h1) Q := by
  unfold G.bnd at q
  cases z : m h with
  | ok d h1 =>
    rw [z] at q
    exact fun v μ1 H1 e1 c1 r1 => ⟨d, h1, μ1, e1, c1, r1, OkG.ext e1 q⟩
  | exc c fs h1 =>
    rw [z] at q
    cases fs with
    | none => exact q
    | some fs => exact q
  | stuck =>
    rw [z] at q
    exact q
theorem OkG.now {d : α} {v : β} {Q : β → Hp → Prop} (q : OkG K cls E rel μ H (.ok d h) Q) (c : Cfg K cls μ H h) (r : rel H μ v d) : Q v H := q v μ H (Ext.refl _ _) c r
end
end G

/-! The readings' mirrors: expressions, tests, arguments, statements, loops. -/
namespace G
open PySem PySem.Spec PyProof.Rows L2

/-! ### mirrors -/
abbrev ME := Env → M D
abbrev MT := Env → M Bool
abbrev MA := Env → M (List D)
abbrev MO := Env → M (Option Int)
abbrev MS := Env → M Fl
def mVar (i : Nat) : ME := fun ρ => match ρ[i]? with
  | some (some d) => ret d
  | _ => stuck
def mC (d : D) : ME := fun _ => ret d
def mOp (f : D → D → M D) (a b : ME) : ME := fun ρ => bnd (a ρ) fun x => bnd (b ρ) fun y => f x y
def mUn (f : D → M D) (a : ME) : ME := fun ρ => bnd (a ρ) f
def mNil : MA := fun _ => ret []
def mCons (a : ME) (r : MA) : MA := fun ρ => bnd (a ρ) fun x => bnd (r ρ) fun xs => ret (x :: xs)
def mCB (f : List D → M D) (a : MA) : ME := fun ρ => bnd (a ρ) f
/-- a new list -/
def alloc (o : O) : M D := fun h => .ok (.ref h.length) (h ++ [o])
def mTup (a : MA) : ME := fun ρ => bnd (a ρ) fun xs => if xs.length ≤ sizeLine then ret (.tup xs) else stuck
def mLst (a : MA) : ME := fun ρ => bnd (a ρ) fun xs => if xs.length ≤ sizeLine then alloc (.lst xs) else stuck
def asBl (d : D) : M Bool := match d with
  | .bl b => ret b
  | _ => stuck
def mTest (a : ME) : MT := fun ρ => bnd (a ρ) asBl
def mYes : MT := fun _ => ret true
def mAnd (a b : MT) : MT := fun ρ => bnd (a ρ) fun c => if c = true then b ρ else ret false
def mOr (a b : MT) : MT := fun ρ => bnd (a ρ) fun c => if c = true then ret true else b ρ
def mNot (a : MT) : MT := fun ρ => bnd (a ρ) fun c => ret (!c)
def mAndV (a b : ME) : ME := fun ρ => bnd (a ρ) fun x => bnd (asBl x) fun c => if c = true then b ρ else ret (.bl false)
def mOrV (a b : ME) : ME := fun ρ => bnd (a ρ) fun x => bnd (asBl x) fun c => if c = true then ret (.bl true) else b ρ
def mNotV (a : ME) : ME := fun ρ => bnd (a ρ) fun x => bnd (asBl x) fun c => ret (.bl (!c))
def mIf (t : MT) (a b : ME) : ME := fun ρ => bnd (t ρ) fun c => if c = true then a ρ else b ρ
def mNoPart : MO := fun _ => ret none
def mPart (a : ME) : MO := fun ρ => bnd (a ρ) fun x => match x with
  | .int i => ret (some i)
  | _ => stuck
def mSl (f : D → Option Int → Option Int → M D) (a : ME) (l u : MO) : ME := fun ρ => bnd (a ρ) fun x => bnd (l ρ) fun i => bnd (u ρ) fun j => f x i j
/-- a call of a def that raises nothing -/
def noexc {α : Type} (m : M α) : M α := fun h => match m h with
  | .ok a h' => .ok a h'
  | _ => .stuck
def mCall (n : Nat) (f : List D → M D) (a : MA) : ME := fun ρ => bnd (a ρ) fun ds => if ds.length = n then noexc (f ds) else stuck

/-! statements -/
def mNext : MS := fun ρ => ret (.nx ρ)
def mRet (a : ME) : MS := fun ρ => bnd (a ρ) fun d => ret (.rt d)
def mRetN : MS := fun _ => ret (.rt .non)
def mBrk : MS := fun ρ => ret (.bk ρ)
def mCont : MS := fun ρ => ret (.ct ρ)
def mDrop (a : ME) : MS := fun ρ => bnd (a ρ) fun _ => ret (.nx ρ)
def thenF (f : Fl) (u : MS) : M Fl := match f with
  | .nx ρ => u ρ
  | f => ret f
def mSeq (t u : MS) : MS := fun ρ => bnd (t ρ) fun f => thenF f u
def mIfS (c : MT) (t u : MS) : MS := fun ρ => bnd (c ρ) fun b => if b = true then t ρ else u ρ
def mSet (i : Nat) (a : ME) : MS := fun ρ => bnd (a ρ) fun d => ret (.nx (ρ.set i (some d)))
/-- a target: the slots behind it -/
abbrev MG := D → Env → Option Env
def gmName (i : Nat) : MG := fun d ρ => some (ρ.set i (some d))
def gmAll : List MG → List D → Env → Option Env
  | [], [], ρ => some ρ
  | g :: gs, d :: ds, ρ => (g d ρ).bind (gmAll gs ds)
  | _, _, _ => none
def gmTup (gs : List MG) : MG := fun d ρ => match d with
  | .tup ds => gmAll gs ds ρ
  | _ => none
def goF (o : Option Env) (k : Env → M Fl) : M Fl := match o with
  | some ρ => k ρ
  | none => stuck
def mAsg (g : MG) (a : ME) : MS := fun ρ => bnd (a ρ) fun d => goF (g d ρ) fun ρ' => ret (.nx ρ')
def getL (h : Store) (n : Nat) : Option (List D) := match h[n]? with
  | some (.lst xs) => some xs
  | _ => none
/-- o[i] = v -/
def setItem (o i v : D) : M Unit := fun h => match o, i with
  | .ref n, .int k => match getL h n with
    | some xs => match ixN xs.length k with
      | some j => .ok () (h.set n (.lst (xs.set j v)))
      | none => .stuck
    | none => .stuck
  | _, _ => .stuck
def mSetIx (o i a : ME) : MS := fun ρ => bnd (a ρ) fun v => bnd (o ρ) fun x => bnd (i ρ) fun k => bnd (setItem x k v) fun _ => ret (.nx ρ)
/-- x = x op e, in place -/
def mAug (i : Nat) (f : D → D → M D) (a : ME) : MS := fun ρ => match ρ[i]? with
  | some (some x) => bnd (a ρ) fun y => bnd (f x y) fun z => ret (.nx (ρ.set i (some z)))
  | _ => stuck
/-- what is walked: its items, and what must stand while it is walked -/
structure Wk where
  ds : List D
  lv : Store → Bool
abbrev MI := Env → M Wk
def forGo (lv : Store → Bool) (g : MG) (body : MS) : List D → MS
  | [], ρ => fun h => if lv h = true then .ok (.nx ρ) h else .stuck
  | d :: ds, ρ => fun h => if lv h = true then match g d ρ with
      | none => .stuck
      | some ρ1 => match body ρ1 h with
        | .ok (.nx ρ2) h2 => forGo lv g body ds ρ2 h2
        | .ok (.ct ρ2) h2 => forGo lv g body ds ρ2 h2
        | .ok (.bk ρ2) h2 => .ok (.nx ρ2) h2
        | .ok (.rt d) h2 => .ok (.rt d) h2
        | .exc c fs h2 => .exc c fs h2
        | .stuck => .stuck
    else .stuck
def mFor (w : MI) (g : MG) (body : MS) : MS := fun ρ => bnd (w ρ) fun k => forGo k.lv g body k.ds ρ
def mWhile (t : MT) (body : MS) : Nat → MS
  | 0, _ => stuck
  | n + 1, ρ => bnd (t ρ) fun c => if c = true then fun h => match body ρ h with
      | .ok (.nx ρ2) h2 => mWhile t body n ρ2 h2
      | .ok (.ct ρ2) h2 => mWhile t body n ρ2 h2
      | .ok (.bk ρ2) h2 => .ok (.nx ρ2) h2
      | .ok (.rt d) h2 => .ok (.rt d) h2
      | .exc c fs h2 => .exc c fs h2
      | .stuck => .stuck
    else ret (.nx ρ)
/-- a comprehension's items -/
def lcGo (lv : Store → Bool) (g : MG) (t : MT) (e : ME) (ρ : Env) : List D → M (List D)
  | [] => fun h => if lv h = true then .ok [] h else .stuck
  | d :: ds => fun h => if lv h = true then match g d ρ with
      | none => .stuck
      | some ρ1 => bnd (t ρ1) (fun b => if b = true then bnd (e ρ1) fun y => bnd (lcGo lv g t e ρ ds) fun ys => ret (y :: ys) else lcGo lv g t e ρ ds) h
    else .stuck
def mLc (w : MI) (g : MG) (t : MT) (e : ME) (vs : List Nat) : ME := fun ρ => bnd (w ρ) fun k => if k.ds.length ≤ 1000000 then bnd (lcGo k.lv g t e (wipeD ρ vs) k.ds) fun ys => alloc (.lst ys) else stuck
/-- a def -/
def endF (f : Fl) : M D := match f with
  | .rt d => ret d
  | .nx _ => ret .non
  | _ => stuck
def mFn (N : Nat) (body : MS) (ds : List D) : M D := bnd (body (ds.map some ++ List.replicate (N - ds.length) none)) endF

/-! ### the judgements -/
section
variable (K : PySem.W.Frag) (cls : Nat → Addr) (E : XK)
def EvE (te : TE) (m : ME) : Prop := ∀ μ H σ ρ h (Q : VK), Cfg K cls μ H h → EnvR K H μ σ ρ → OkG K cls E (rlD K) μ H (m ρ h) Q → te σ H Q
def EvT (tt : TT) (m : MT) : Prop := ∀ μ H σ ρ h (Q : Bool → Hp → Prop), Cfg K cls μ H h → EnvR K H μ σ ρ → OkG K cls E rlB μ H (m ρ h) Q → tt σ H Q
def EvA (ta : TA) (m : MA) : Prop := ∀ μ H σ ρ h (Q : List V → Hp → Prop), Cfg K cls μ H h → EnvR K H μ σ ρ → OkG K cls E (rlA K) μ H (m ρ h) Q → ta σ H Q
def EvO (to : TO) (m : MO) : Prop := ∀ μ H σ ρ h (Q : Option Int → Hp → Prop), Cfg K cls μ H h → EnvR K H μ σ ρ → OkG K cls E rlO μ H (m ρ h) Q → to σ H Q
def OpE (r : R2) (f : D → D → M D) : Prop := ∀ μ H h x y a b (Q : VK), Cfg K cls μ H h → Rep K H μ x a → Rep K H μ y b → OkG K cls E (rlD K) μ H (f a b h) Q → r x y H Q
def UnE (r : V → Hp → VK → Prop) (f : D → M D) : Prop := ∀ μ H h x a (Q : VK), Cfg K cls μ H h → Rep K H μ x a → OkG K cls E (rlD K) μ H (f a h) Q → r x H Q
def CaE (r : List V → Hp → VK → Prop) (f : List D → M D) : Prop := ∀ μ H h xs as (Q : VK), Cfg K cls μ H h → RepAll K H μ xs as → OkG K cls E (rlD K) μ H (f as h) Q → r xs H Q
def SlE (r : V → Option Int → Option Int → Hp → VK → Prop) (f : D → Option Int → Option Int → M D) : Prop := ∀ μ H h x a l u (Q : VK), Cfg K cls μ H h → Rep K H μ x a → OkG K cls E (rlD K) μ H (f a l u h) Q → r x l u H Q
def GgE (g : TG) (m : MG) : Prop := ∀ μ H h σ ρ v d ρ' (Q : L2.St → Hp → Prop), Cfg K cls μ H h → EnvR K H μ σ ρ → Rep K H μ v d → m d ρ = some ρ' → (∀ σ', EnvR K H μ σ' ρ' → Q σ' H) → g v σ H Q
def EvS (ts : TS) (m : MS) : Prop := ∀ μ H σ ρ h (D : Ends), Cfg K cls μ H h → EnvR K H μ σ ρ → OkG K cls E (rlF K) μ H (m ρ h) (flQ D) → ts D σ H
/-- an iterator gives these items while the store is as it must be -/
def ItOk (J : It) (k : Wk) (μ0 : List Addr) (H0 : Hp) : Prop := ∀ (i : Nat) μ H h, Ext μ0 H0 μ H → Cfg K cls μ H h → k.lv h = true →
  (∀ d, k.ds[i]? = some d → J.go i H ∧ ∀ x H', J.yld i H x H' → Ext μ H μ H' ∧ Cfg K cls μ H' h ∧ Rep K H' μ x d) ∧ (k.ds[i]? = none → J.stop i H)
def rlW (H : Hp) (μ : List Addr) (J : It) (k : Wk) : Prop := ItOk K cls J k μ H
def EvI (wi : TI) (m : MI) : Prop := ∀ μ H σ ρ h (R : It → Hp → Prop), Cfg K cls μ H h → EnvR K H μ σ ρ → OkG K cls E (rlW K cls) μ H (m ρ h) R → wi σ H R
end

section
variable {K : PySem.W.Frag} {cls : Nat → Addr} {E : XK}
/-! ### expressions -/
theorem e_var (i : Nat) : EvE K cls E (tVar i) (mVar i) := fun μ H σ ρ h Q c r q => by
  unfold mVar at q
  cases hx : ρ[i]? with
  | none => rw [hx] at q; exact q.elim
  | some o =>
    rw [hx] at q
    cases o with
    | none => exact q.elim
    | some d =>
      obtain ⟨v, hv, rv⟩ := r.get hx
      exact ⟨v, hv, OkG.now (show OkG K cls E (rlD K) μ H (.ok d h) Q from q) c rv⟩
theorem e_int (i : Int) : EvE K cls E (tC (.int i)) (mC (.int i)) := fun μ H σ ρ h Q c r q => q.now c (.int i)
theorem e_bl (i : Bool) : EvE K cls E (tC (.bl i)) (mC (.bl i)) := fun μ H σ ρ h Q c r q => q.now c (.bl i)
theorem e_non : EvE K cls E (tC .non) (mC .non) := fun μ H σ ρ h Q c r q => q.now c .non
theorem e_str (x : PySem.Str) : EvE K cls E (tC (.str x)) (mC (.str x)) := fun μ H σ ρ h Q c r q => q.now c (.str x)
theorem e_ty (x : String) : EvE K cls E (tC (.ty x)) (mC (.ty x)) := fun μ H σ ρ h Q c r q => q.now c (.ty x)
theorem e_op {r : R2} {f : D → D → M D} {ta tb : TE} {a b : ME} (hr : OpE K cls E r f) (ha : EvE K cls E ta a) (hb : EvE K cls E tb b) : EvE K cls E (tOp r ta tb) (mOp f a b) := fun μ H σ ρ h Q c e q => by
  refine ha μ H σ ρ h _ c e (OkG.imp (OkG.bnd (rel := rlD K) q) ?_)
  rintro v H1 ⟨d, h1, μ1, e1, c1, r1, q1⟩
  refine hb μ1 H1 σ ρ h1 _ c1 (e.ext c e1) (OkG.imp (OkG.bnd (rel := rlD K) q1) ?_)
  rintro w H2 ⟨d2, h2, μ2, e2, c2, r2, q2⟩
  exact hr μ2 H2 h2 v w d d2 Q c2 (Rep.ext c1 e2 r1) r2 q2
theorem e_un {r : V → Hp → VK → Prop} {f : D → M D} {ta : TE} {a : ME} (hr : UnE K cls E r f) (ha : EvE K cls E ta a) : EvE K cls E (tUn r ta) (mUn f a) := fun μ H σ ρ h Q c e q => by
  refine ha μ H σ ρ h _ c e (OkG.imp (OkG.bnd (rel := rlD K) q) ?_)
  rintro v H1 ⟨d, h1, μ1, e1, c1, r1, q1⟩
  exact hr μ1 H1 h1 v d Q c1 r1 q1
theorem a_nil : EvA K cls E tNil mNil := fun μ H σ ρ h Q c e q => q.now c .nil
theorem a_cons {ta : TE} {a : ME} {tr : TA} {r : MA} (ha : EvE K cls E ta a) (hr : EvA K cls E tr r) : EvA K cls E (tCons ta tr) (mCons a r) := fun μ H σ ρ h Q c e q => by
  refine ha μ H σ ρ h _ c e (OkG.imp (OkG.bnd (rel := rlD K) q) ?_)
  rintro v H1 ⟨d, h1, μ1, e1, c1, r1, q1⟩
  refine hr μ1 H1 σ ρ h1 _ c1 (e.ext c e1) (OkG.imp (OkG.bnd (rel := rlA K) q1) ?_)
  rintro w H2 ⟨d2, h2, μ2, e2, c2, r2, q2⟩
  exact q2.now c2 (.cons (Rep.ext c1 e2 r1) r2)
theorem e_call {r : List V → Hp → VK → Prop} {f : List D → M D} {ta : TA} {a : MA} (hr : CaE K cls E r f) (ha : EvA K cls E ta a) : EvE K cls E (tCB r ta) (mCB f a) := fun μ H σ ρ h Q c e q => by
  refine ha μ H σ ρ h _ c e (OkG.imp (OkG.bnd (rel := rlA K) q) ?_)
  rintro v H1 ⟨d, h1, μ1, e1, c1, r1, q1⟩
  exact hr μ1 H1 h1 v d Q c1 r1 q1
theorem ok_alloc {μ : List Addr} {H : Hp} {h : Store} {Q : VK} {xs : List V} {ds : List D} (c : Cfg K cls μ H h) (r : RepAll K H μ xs ds) (q : OkG K cls E (rlD K) μ H (alloc (.lst ds) h) Q) :
    ∀ p, H p = none → Q (.ref p) (upd H p (.lst xs)) := fun p hp => by
  refine q (.ref p) (μ ++ [p]) _ (ext_snoc c hp) (c.new hp r) (.ref ?_)
  rw [← c.len, List.getElem?_append_right (Nat.le_refl _), Nat.sub_self]
  rfl
theorem ok_tup {μ : List Addr} {H : Hp} {h : Store} {Q : VK} {xs : List V} {ds : List D} (c : Cfg K cls μ H h) (r : RepAll K H μ xs ds) (q : OkG K cls E (rlD K) μ H (ret (.tup ds) h) Q) :
    ∀ p, H p = none → Q (.ref p) (upd H p (.tup xs)) := fun p hp =>
  q (.ref p) μ _ (ext_new c hp) (c.upd_out hp) (.tup (SqT.of upd_same) (r.ext c (ext_new c hp)))
theorem e_tup {ta : TA} {a : MA} (ha : EvA K cls E ta a) : EvE K cls E (tTup ta) (mTup a) := fun μ H σ ρ h Q c e q => by
  refine ha μ H σ ρ h _ c e (OkG.imp (OkG.bnd (rel := rlA K) q) ?_)
  rintro v H1 ⟨d, h1, μ1, e1, c1, r1, q1⟩
  have hl := RepAll.length r1
  split at q1
  · next hz => exact ⟨by rw [hl]; exact hz, ok_tup c1 r1 q1⟩
  · exact q1.elim
theorem e_lst {ta : TA} {a : MA} (ha : EvA K cls E ta a) : EvE K cls E (tLst ta) (mLst a) := fun μ H σ ρ h Q c e q => by
  refine ha μ H σ ρ h _ c e (OkG.imp (OkG.bnd (rel := rlA K) q) ?_)
  rintro v H1 ⟨d, h1, μ1, e1, c1, r1, q1⟩
  have hl := RepAll.length r1
  split at q1
  · next hz => exact ⟨by rw [hl]; exact hz, ok_alloc c1 r1 q1⟩
  · exact q1.elim
theorem asBl_bnd {μ : List Addr} {H : Hp} {h : Store} {α β : Type} {rel : Hp → List Addr → β → α → Prop} {f : Bool → M α} {Q : β → Hp → Prop} {v : V} {d : D} (r : Rep K H μ v d) (q : OkG K cls E rel μ H (bnd (asBl d) f h) Q) :
    ∃ b, v = .bl b ∧ OkG K cls E rel μ H (f b h) Q := by
  cases r <;> first | exact ⟨_, rfl, q⟩ | exact q.elim
theorem t_test {ta : TE} {a : ME} (ha : EvE K cls E ta a) : EvT K cls E (tTest ta) (mTest a) := fun μ H σ ρ h Q c e q => by
  refine ha μ H σ ρ h _ c e (OkG.imp (OkG.bnd (rel := rlD K) q) ?_)
  rintro v H1 ⟨d, h1, μ1, e1, c1, r1, q1⟩
  cases r1 <;> first | exact ⟨_, rfl, q1.now c1 rfl⟩ | exact q1.elim
theorem t_B {ta : TE} {a : ME} (ha : EvE K cls E ta a) : EvT K cls E (tB ta) (mTest a) := fun μ H σ ρ h Q c e q => by
  refine ha μ H σ ρ h _ c e (OkG.imp (OkG.bnd (rel := rlD K) q) ?_)
  rintro v H1 ⟨d, h1, μ1, e1, c1, r1, q1⟩
  cases r1 <;> first | exact ⟨_, rfl, q1.now c1 rfl⟩ | exact q1.elim
theorem t_yes : EvT K cls E tYes mYes := fun μ H σ ρ h Q c e q => q.now c rfl
theorem t_and {ta tb : TT} {a b : MT} (ha : EvT K cls E ta a) (hb : EvT K cls E tb b) : EvT K cls E (tAnd ta tb) (mAnd a b) := fun μ H σ ρ h Q c e q => by
  refine ha μ H σ ρ h _ c e (OkG.imp (OkG.bnd (rel := rlB) q) ?_)
  rintro v H1 ⟨d, h1, μ1, e1, c1, rfl, q1⟩
  cases v with
  | true => exact hb μ1 H1 σ ρ h1 Q c1 (e.ext c e1) q1
  | false => exact q1.now c1 rfl
theorem t_or {ta tb : TT} {a b : MT} (ha : EvT K cls E ta a) (hb : EvT K cls E tb b) : EvT K cls E (tOr ta tb) (mOr a b) := fun μ H σ ρ h Q c e q => by
  refine ha μ H σ ρ h _ c e (OkG.imp (OkG.bnd (rel := rlB) q) ?_)
  rintro v H1 ⟨d, h1, μ1, e1, c1, rfl, q1⟩
  cases v with
  | true => exact q1.now c1 rfl
  | false => exact hb μ1 H1 σ ρ h1 Q c1 (e.ext c e1) q1
theorem t_not {ta : TT} {a : MT} (ha : EvT K cls E ta a) : EvT K cls E (tNot ta) (mNot a) := fun μ H σ ρ h Q c e q => by
  refine ha μ H σ ρ h _ c e (OkG.imp (OkG.bnd (rel := rlB) q) ?_)
  rintro v H1 ⟨d, h1, μ1, e1, c1, rfl, q1⟩
  exact q1.now c1 rfl
theorem e_and {ta tb : TE} {a b : ME} (ha : EvE K cls E ta a) (hb : EvE K cls E tb b) : EvE K cls E (tAndV ta tb) (mAndV a b) := fun μ H σ ρ h Q c e q => by
  refine ha μ H σ ρ h _ c e (OkG.imp (OkG.bnd (rel := rlD K) q) ?_)
  rintro v H1 ⟨d, h1, μ1, e1, c1, r1, q1⟩
  obtain ⟨b, rfl, q2⟩ := asBl_bnd r1 q1
  refine ⟨b, rfl, ?_⟩
  cases b with
  | true => exact hb μ1 H1 σ ρ h1 Q c1 (e.ext c e1) q2
  | false => exact q2.now c1 (.bl false)
theorem e_or {ta tb : TE} {a b : ME} (ha : EvE K cls E ta a) (hb : EvE K cls E tb b) : EvE K cls E (tOrV ta tb) (mOrV a b) := fun μ H σ ρ h Q c e q => by
  refine ha μ H σ ρ h _ c e (OkG.imp (OkG.bnd (rel := rlD K) q) ?_)
  rintro v H1 ⟨d, h1, μ1, e1, c1, r1, q1⟩
  obtain ⟨b, rfl, q2⟩ := asBl_bnd r1 q1
  refine ⟨b, rfl, ?_⟩
  cases b with
  | true => exact q2.now c1 (.bl true)
  | false => exact hb μ1 H1 σ ρ h1 Q c1 (e.ext c e1) q2
theorem e_not {ta : TE} {a : ME} (ha : EvE K cls E ta a) : EvE K cls E (tNotV ta) (mNotV a) := fun μ H σ ρ h Q c e q => by
  refine ha μ H σ ρ h _ c e (OkG.imp (OkG.bnd (rel := rlD K) q) ?_)
  rintro v H1 ⟨d, h1, μ1, e1, c1, r1, q1⟩
  obtain ⟨b, rfl, q2⟩ := asBl_bnd r1 q1
  exact ⟨b, rfl, q2.now c1 (.bl _)⟩
theorem e_if {tt : TT} {t : MT} {ta tb : TE} {a b : ME} (ht : EvT K cls E tt t) (ha : EvE K cls E ta a) (hb : EvE K cls E tb b) : EvE K cls E (tIf tt ta tb) (mIf t a b) := fun μ H σ ρ h Q c e q => by
  refine ht μ H σ ρ h _ c e (OkG.imp (OkG.bnd (rel := rlB) q) ?_)
  rintro v H1 ⟨d, h1, μ1, e1, c1, rfl, q1⟩
  cases v with
  | true => exact ha μ1 H1 σ ρ h1 Q c1 (e.ext c e1) q1
  | false => exact hb μ1 H1 σ ρ h1 Q c1 (e.ext c e1) q1
theorem o_none : EvO K cls E tNoPart mNoPart := fun μ H σ ρ h Q c e q => q.now c rfl
theorem o_some {ta : TE} {a : ME} (ha : EvE K cls E ta a) : EvO K cls E (tPart ta) (mPart a) := fun μ H σ ρ h Q c e q => by
  refine ha μ H σ ρ h _ c e (OkG.imp (OkG.bnd (rel := rlD K) q) ?_)
  rintro v H1 ⟨d, h1, μ1, e1, c1, r1, q1⟩
  cases r1 <;> first | exact ⟨_, rfl, q1.now c1 rfl⟩ | exact q1.elim
theorem e_slice {r : V → Option Int → Option Int → Hp → VK → Prop} {f : D → Option Int → Option Int → M D} {ta : TE} {a : ME} {tl tu : TO} {l u : MO} (hr : SlE K cls E r f) (ha : EvE K cls E ta a) (hl : EvO K cls E tl l) (hu : EvO K cls E tu u) :
    EvE K cls E (tSl r ta tl tu) (mSl f a l u) := fun μ H σ ρ h Q c e q => by
  refine ha μ H σ ρ h _ c e (OkG.imp (OkG.bnd (rel := rlD K) q) ?_)
  rintro v H1 ⟨d, h1, μ1, e1, c1, r1, q1⟩
  refine hl μ1 H1 σ ρ h1 _ c1 (e.ext c e1) (OkG.imp (OkG.bnd (rel := rlO) q1) ?_)
  rintro i H2 ⟨_, h2, μ2, e2, c2, rfl, q2⟩
  refine hu μ2 H2 σ ρ h2 _ c2 ((e.ext c e1).ext c1 e2) (OkG.imp (OkG.bnd (rel := rlO) q2) ?_)
  rintro j H3 ⟨_, h3, μ3, e3, c3, rfl, q3⟩
  exact hr μ3 H3 h3 v d i j Q c3 (Rep.ext c2 e3 (Rep.ext c1 e2 r1)) q3
/-! ### statements -/
theorem s_next : EvS K cls E tNext mNext := fun μ H σ ρ h D c e q => q.now (v := FlV.nx σ) c e
theorem s_brk : EvS K cls E tBreak mBrk := fun μ H σ ρ h D c e q => q.now (v := FlV.bk σ) c e
theorem s_cont : EvS K cls E tCont mCont := fun μ H σ ρ h D c e q => q.now (v := FlV.ct σ) c e
theorem s_ret {ta : TE} {a : ME} (ha : EvE K cls E ta a) : EvS K cls E (tRet ta) (mRet a) := fun μ H σ ρ h D c e q => by
  refine ha μ H σ ρ h _ c e (OkG.imp (OkG.bnd (rel := rlD K) q) ?_)
  rintro v H1 ⟨d, h1, μ1, e1, c1, r1, q1⟩
  exact q1.now (v := FlV.rt v) c1 r1
theorem s_retN : EvS K cls E tRetN mRetN := fun μ H σ ρ h D c e q => q.now (v := FlV.rt .non) c .non
theorem s_drop {ta : TE} {a : ME} (ha : EvE K cls E ta a) : EvS K cls E (tDrop ta) (mDrop a) := fun μ H σ ρ h D c e q => by
  refine ha μ H σ ρ h _ c e (OkG.imp (OkG.bnd (rel := rlD K) q) ?_)
  rintro v H1 ⟨d, h1, μ1, e1, c1, r1, q1⟩
  exact q1.now (v := FlV.nx σ) c1 (e.ext c e1)
theorem s_seq {ts us : TS} {t u : MS} (ht : EvS K cls E ts t) (hu : EvS K cls E us u) : EvS K cls E (tSeq ts us) (mSeq t u) := fun μ H σ ρ h D c e q => by
  refine ht μ H σ ρ h _ c e (OkG.imp (OkG.bnd (rel := rlF K) q) ?_)
  rintro v H1 ⟨d, h1, μ1, e1, c1, r1, q1⟩
  cases v with
  | nx σ1 =>
    cases d with
    | nx ρ1 => exact hu μ1 H1 σ1 ρ1 h1 D c1 r1 q1
    | rt _ => exact r1.elim
    | bk _ => exact r1.elim
    | ct _ => exact r1.elim
  | rt v1 =>
    cases d with
    | rt d1 => exact q1.now (v := FlV.rt v1) c1 r1
    | nx _ => exact r1.elim
    | bk _ => exact r1.elim
    | ct _ => exact r1.elim
  | bk σ1 =>
    cases d with
    | bk d1 => exact q1.now (v := FlV.bk σ1) c1 r1
    | nx _ => exact r1.elim
    | rt _ => exact r1.elim
    | ct _ => exact r1.elim
  | ct σ1 =>
    cases d with
    | ct d1 => exact q1.now (v := FlV.ct σ1) c1 r1
    | nx _ => exact r1.elim
    | rt _ => exact r1.elim
    | bk _ => exact r1.elim
theorem s_if {tt : TT} {t : MT} {us ws : TS} {u w : MS} (ht : EvT K cls E tt t) (hu : EvS K cls E us u) (hw : EvS K cls E ws w) : EvS K cls E (tIfS tt us ws) (mIfS t u w) := fun μ H σ ρ h D c e q => by
  refine ht μ H σ ρ h _ c e (OkG.imp (OkG.bnd (rel := rlB) q) ?_)
  rintro v H1 ⟨d, h1, μ1, e1, c1, rfl, q1⟩
  cases v with
  | true => exact hu μ1 H1 σ ρ h1 D c1 (e.ext c e1) q1
  | false => exact hw μ1 H1 σ ρ h1 D c1 (e.ext c e1) q1
theorem s_set {i : Nat} {ta : TE} {a : ME} (ha : EvE K cls E ta a) : EvS K cls E (tAsg ta (gName i)) (mSet i a) := fun μ H σ ρ h D c e q => by
  refine ha μ H σ ρ h _ c e (OkG.imp (OkG.bnd (rel := rlD K) q) ?_)
  rintro v H1 ⟨d, h1, μ1, e1, c1, r1, q1⟩
  exact q1.now (v := FlV.nx (σ.set i (some v))) c1 ((e.ext c e1).set r1 i)
theorem g_name (i : Nat) : GgE K cls (gName i) (gmName i) := fun μ H h σ ρ v d ρ' Q c e r hm q => by
  cases hm
  exact q _ (e.set r i)
theorem gs_nil {vs : List V} {ds : List D} {μ : List Addr} {H : Hp} {h : Store} {σ : L2.St} {ρ ρ' : Env} {Q : L2.St → Hp → Prop} (e : EnvR K H μ σ ρ) (r : RepAll K H μ vs ds) (hm : gmAll [] ds ρ = some ρ') (q : ∀ σ', EnvR K H μ σ' ρ' → Q σ' H) : gNil vs σ H Q := by
  cases r with
  | nil => cases hm; exact ⟨rfl, q _ e⟩
  | cons _ _ => cases hm
/-- many targets -/
def GsE (K : PySem.W.Frag) (cls : Nat → Addr) (g : TGs) (ms : List MG) : Prop := ∀ μ H h σ ρ vs ds ρ' (Q : L2.St → Hp → Prop), Cfg K cls μ H h → EnvR K H μ σ ρ → RepAll K H μ vs ds → gmAll ms ds ρ = some ρ' → (∀ σ', EnvR K H μ σ' ρ' → Q σ' H) → g vs σ H Q
theorem g_nil : GsE K cls gNil [] := fun μ H h σ ρ vs ds ρ' Q c e r hm q => gs_nil (h := h) e r hm q
theorem g_cons {g : TG} {gs : TGs} {m : MG} {ms : List MG} (hg : GgE K cls g m) (hs : GsE K cls gs ms) : GsE K cls (gCons g gs) (m :: ms) := fun μ H h σ ρ vs ds ρ' Q c e r hm q => by
  cases r with
  | nil => cases hm
  | cons r1 r2 =>
    obtain ⟨ρ1, h1, h2⟩ := Option.bind_eq_some_iff.mp hm
    refine ⟨_, _, rfl, hg μ H h σ ρ _ _ ρ1 _ c e r1 h1 fun σ1 e1 => ?_⟩
    exact hs μ H h σ1 ρ1 _ _ ρ' Q c e1 r2 h2 q
theorem g_tup {gs : TGs} {ms : List MG} {n : Nat} (hs : GsE K cls gs ms) (hn : ∀ ds ρ ρ', gmAll ms ds ρ = some ρ' → ds.length = n) : GgE K cls (gTup K n gs) (gmTup ms) := fun μ H h σ ρ v d ρ' Q c e r hm q => by
  cases r with
  | tup h1 h2 => exact ⟨_, _, rfl, h1, (RepAll.length h2).trans (hn _ _ _ hm), hs μ H h σ ρ _ _ ρ' Q c e h2 hm q⟩
  | _ => cases hm
theorem gmAll_len : ∀ (ms : List MG) ds ρ ρ', gmAll ms ds ρ = some ρ' → ds.length = ms.length
  | [], [], _, _, _ => rfl
  | _ :: ms, d :: ds, ρ, ρ', h => by
    obtain ⟨ρ1, h1, h2⟩ := Option.bind_eq_some_iff.mp h
    rw [List.length_cons, List.length_cons, gmAll_len ms ds ρ1 ρ' h2]
  | [], _ :: _, _, _, h => by cases h
  | _ :: _, [], _, _, h => by cases h
theorem s_asg {g : TG} {m : MG} {ta : TE} {a : ME} (ha : EvE K cls E ta a) (hg : GgE K cls g m) : EvS K cls E (tAsg ta g) (mAsg m a) := fun μ H σ ρ h D c e q => by
  refine ha μ H σ ρ h _ c e (OkG.imp (OkG.bnd (rel := rlD K) q) ?_)
  rintro v H1 ⟨d, h1, μ1, e1, c1, r1, q1⟩
  cases hm : m d ρ with
  | none => rw [hm] at q1; exact q1.elim
  | some ρ' =>
    rw [hm] at q1
    exact hg μ1 H1 h1 σ ρ v d ρ' _ c1 (e.ext c e1) r1 hm fun σ' e' => OkG.now (v := FlV.nx σ') (show OkG K cls E (rlF K) μ1 H1 (.ok (.nx ρ') h1) (flQ D) from q1) c1 e'
theorem getL_some {h : Store} {n : Nat} {xs : List D} (e : getL h n = some xs) : h[n]? = some (.lst xs) := by
  unfold getL at e
  split at e
  · next ys hy => cases e; exact hy
  · cases e
theorem s_setIx {to ti ta : TE} {o i a : ME} (ha : EvE K cls E ta a) (ho : EvE K cls E to o) (hi : EvE K cls E ti i) : EvS K cls E (tAsg ta (gSub to ti rSetL)) (mSetIx o i a) := fun μ H σ ρ h D c e q => by
  refine ha μ H σ ρ h _ c e (OkG.imp (OkG.bnd (rel := rlD K) q) ?_)
  rintro v H1 ⟨d, h1, μ1, e1, c1, r1, q1⟩
  refine ho μ1 H1 σ ρ h1 _ c1 (e.ext c e1) (OkG.imp (OkG.bnd (rel := rlD K) q1) ?_)
  rintro x H2 ⟨dx, h2, μ2, e2, c2, r2, q2⟩
  refine hi μ2 H2 σ ρ h2 _ c2 ((e.ext c e1).ext c1 e2) (OkG.imp (OkG.bnd (rel := rlD K) q2) ?_)
  rintro k H3 ⟨dk, h3, μ3, e3, c3, r3, q3⟩
  have r2' := Rep.ext c2 e3 r2
  have r1' := Rep.ext c2 e3 (Rep.ext c1 e2 r1)
  have ee := ((e.ext c e1).ext c1 e2).ext c2 e3
  unfold bnd setItem at q3
  cases r2' with
  | ref hn =>
    cases r3 with
    | int z =>
      rename_i n p
      cases hx : getL h3 n with
      | none => simp only [hx] at q3; exact q3.elim
      | some xs =>
        simp only [hx] at q3
        cases hj : ixN xs.length z with
        | none => simp only [hj] at q3; exact q3.elim
        | some j =>
          simp only [hj] at q3
          obtain ⟨p', hp, vs, hv, rv⟩ := c3.at (getL_some hx)
          rw [hn] at hp
          cases hp
          refine ⟨_, vs, z, j, rfl, rfl, hv, by rw [RepAll.length rv]; exact hj, ?_⟩
          exact OkG.now (v := FlV.nx σ) (OkG.ext (ext_set (List.mem_of_getElem? hn)) q3) (c3.setL hn (RepAll.set r1' j rv)) (ee.ext c3 (ext_set (List.mem_of_getElem? hn)))
    | _ => exact q3.elim
  | _ => cases r3 <;> exact q3.elim
theorem s_aug {i : Nat} {r : R2} {f : D → D → M D} {ta : TE} {a : ME} (hr : OpE K cls E r f) (ha : EvE K cls E ta a) : EvS K cls E (tAug i ta r) (mAug i f a) := fun μ H σ ρ h D c e q => by
  unfold mAug at q
  cases hx : ρ[i]? with
  | none => rw [hx] at q; exact q.elim
  | some o =>
   rw [hx] at q
   cases o with
   | none => exact q.elim
   | some d =>
    obtain ⟨v, hv, rv⟩ := e.get hx
    refine ⟨v, hv, ?_⟩
    refine ha μ H σ ρ h _ c e (OkG.imp (OkG.bnd (rel := rlD K) q) ?_)
    rintro w H1 ⟨d1, h1, μ1, e1, c1, r1, q1⟩
    refine hr μ1 H1 h1 v w d d1 _ c1 (Rep.ext c e1 rv) r1 (OkG.imp (OkG.bnd (rel := rlD K) q1) ?_)
    rintro z H2 ⟨d2, h2, μ2, e2, c2, r2, q2⟩
    exact q2.now (v := FlV.nx (σ.set i (some z))) c2 (((e.ext c e1).ext c1 e2).set r2 i)
/-! ### loops -/
theorem drop_get {α : Type} {l : List α} {i : Nat} {x : α} {r : List α} (h : l.drop i = x :: r) : l[i]? = some x ∧ l.drop (i + 1) = r := by
  refine ⟨?_, ?_⟩
  · have := List.getElem?_drop (xs := l) (i := i) (j := 0)
    rw [h] at this
    simpa using this.symm
  · rw [← List.drop_drop, h]
    rfl
theorem s_for {wi : TI} {w : MI} {g : TG} {m : MG} {ts : TS} {t : MS} (hw : EvI K cls E wi w) (hg : GgE K cls g m) (ht : EvS K cls E ts t) : EvS K cls E (tFor wi g ts) (mFor w m t) := fun μ H σ ρ h D c e q => by
  refine hw μ H σ ρ h _ c e (OkG.imp (OkG.bnd (rel := rlW K cls) q) ?_)
  rintro J H1 ⟨k, h1, μ1, e1, c1, r1, q1⟩
  refine ⟨fun i n σ' H' => n = (k.ds.drop i).length ∧ ∃ ρ' h' μ', Ext μ1 H1 μ' H' ∧ Cfg K cls μ' H' h' ∧ EnvR K H' μ' σ' ρ' ∧ OkG K cls E (rlF K) μ' H' (forGo k.lv m t (k.ds.drop i) ρ' h') (flQ D),
    ⟨_, rfl, ρ, h1, μ1, Ext.refl _ _, c1, e.ext c e1, q1⟩, ?_⟩
  rintro i n σ' H' ⟨rfl, ρ', h', μ', x', c', e', q'⟩
  cases hd : k.ds.drop i with
  | nil =>
    rw [hd] at q'
    unfold forGo at q'
    have hn : k.ds[i]? = none := by
      rw [List.getElem?_eq_none_iff]
      exact List.drop_eq_nil_iff.mp hd
    split at q'
    · next hl => exact .inl ⟨(r1 i μ' H' h' x' c' hl).2 hn, q'.now (v := FlV.nx σ') c' e'⟩
    · exact q'.elim
  | cons d ds =>
    rw [hd] at q'
    obtain ⟨g1, g2⟩ := drop_get hd
    unfold forGo at q'
    split at q'
    · next hl =>
      obtain ⟨a1, a2⟩ := (r1 i μ' H' h' x' c' hl).1 d g1
      refine .inr ⟨a1, fun σ2 H2 => ∃ ρ2 h2 μ2, Ext μ1 H1 μ2 H2 ∧ Cfg K cls μ2 H2 h2 ∧ EnvR K H2 μ2 σ2 ρ2 ∧ OkG K cls E (rlF K) μ2 H2 (forGo k.lv m t ds ρ2 h2) (flQ D), ?_, fun x H2 hy => ?_⟩
      · rintro σ2 H2 ⟨ρ2, h2, μ2, z1, z2, z3, z4⟩
        exact ⟨ds.length, Nat.lt_succ_self _, by rw [g2], ρ2, h2, μ2, z1, z2, z3, by rw [g2]; exact z4⟩
      · obtain ⟨b1, b2, b3⟩ := a2 x H2 hy
        split at q'
        · exact q'.elim
        · next ρ1 hm =>
          refine hg μ' H2 h' σ' ρ' x d ρ1 _ b2 (e'.ext c' b1) b3 hm fun σ1 e1' => ?_
          refine ht μ' H2 σ1 ρ1 h' _ b2 e1' ?_
          have q2 : OkG K cls E (rlF K) μ' H2 _ (flQ D) := OkG.ext b1 q'
          cases hb : t ρ1 h' with
          | stuck => rw [hb] at q2; exact q2.elim
          | exc c fs h2 =>
            rw [hb] at q2
            cases fs with
            | none => exact q2
            | some fs => exact q2
          | ok f h2 =>
            rw [hb] at q2
            intro v μ3 H3 x3 c3 r3
            cases f with
            | nx ρ2 =>
              cases v with
              | nx σ3 => exact ⟨ρ2, h2, μ3, (x'.trans b1).trans x3, c3, r3, OkG.ext x3 q2⟩
              | _ => exact r3.elim
            | ct ρ2 =>
              cases v with
              | ct σ3 => exact ⟨ρ2, h2, μ3, (x'.trans b1).trans x3, c3, r3, OkG.ext x3 q2⟩
              | _ => exact r3.elim
            | bk ρ2 =>
              cases v with
              | bk σ3 => exact q2 (FlV.nx σ3) μ3 H3 x3 c3 r3
              | _ => exact r3.elim
            | rt d2 =>
              cases v with
              | rt v3 => exact q2 (FlV.rt v3) μ3 H3 x3 c3 r3
              | _ => exact r3.elim
    · exact q'.elim
theorem s_while {tt : TT} {tm : MT} {ts : TS} {t : MS} (n : Nat) (hc : EvT K cls E tt tm) (ht : EvS K cls E ts t) : EvS K cls E (tWhile tt ts) (mWhile tm t n) := fun μ H σ ρ h D c e q => by
  refine ⟨fun n σ' H' => ∃ ρ' h' μ', Ext μ H μ' H' ∧ Cfg K cls μ' H' h' ∧ EnvR K H' μ' σ' ρ' ∧ OkG K cls E (rlF K) μ' H' (mWhile tm t n ρ' h') (flQ D),
    ⟨n, ρ, h, μ, Ext.refl _ _, c, e, q⟩, ?_⟩
  rintro n σ' H' ⟨ρ', h', μ', x', c', e', q'⟩
  cases n with
  | zero => exact q'.elim
  | succ n =>
    unfold mWhile at q'
    refine hc μ' H' σ' ρ' h' _ c' e' (OkG.imp (OkG.bnd (rel := rlB) q') ?_)
    rintro b H1 ⟨_, h1, μ1, e1, c1, rfl, q1⟩
    cases b with
    | false => exact q1.now (v := FlV.nx σ') c1 (e'.ext c' e1)
    | true =>
      refine ⟨fun σ2 H2 => ∃ ρ2 h2 μ2, Ext μ H μ2 H2 ∧ Cfg K cls μ2 H2 h2 ∧ EnvR K H2 μ2 σ2 ρ2 ∧ OkG K cls E (rlF K) μ2 H2 (mWhile tm t n ρ2 h2) (flQ D), fun σ2 H2 z => ⟨n, Nat.lt_succ_self _, z⟩, ?_⟩
      refine ht μ1 H1 σ' ρ' h1 _ c1 (e'.ext c' e1) ?_
      have q2 : OkG K cls E (rlF K) μ1 H1 (match t ρ' h1 with
        | .ok (.nx ρ2) h2 => mWhile tm t n ρ2 h2
        | .ok (.ct ρ2) h2 => mWhile tm t n ρ2 h2
        | .ok (.bk ρ2) h2 => .ok (.nx ρ2) h2
        | .ok (.rt d) h2 => .ok (.rt d) h2
        | .exc c fs h2 => .exc c fs h2
        | .stuck => .stuck) (flQ D) := q1
      cases hb : t ρ' h1 with
      | stuck => rw [hb] at q2; exact q2.elim
      | exc c fs h2 =>
        rw [hb] at q2
        cases fs with
        | none => exact q2
        | some fs => exact q2
      | ok f h2 =>
        rw [hb] at q2
        intro v μ3 H3 x3 c3 r3
        cases f with
        | nx ρ2 =>
          cases v with
          | nx σ3 => exact ⟨ρ2, h2, μ3, (x'.trans e1).trans x3, c3, r3, OkG.ext x3 q2⟩
          | _ => exact r3.elim
        | ct ρ2 =>
          cases v with
          | ct σ3 => exact ⟨ρ2, h2, μ3, (x'.trans e1).trans x3, c3, r3, OkG.ext x3 q2⟩
          | _ => exact r3.elim
        | bk ρ2 =>
          cases v with
          | bk σ3 => exact q2 (FlV.nx σ3) μ3 H3 x3 c3 r3
          | _ => exact r3.elim
        | rt d2 =>
          cases v with
          | rt v3 => exact q2 (FlV.rt v3) μ3 H3 x3 c3 r3
          | _ => exact r3.elim
end
end G

/-! Comprehensions. -/
namespace G
open PySem PySem.Spec PyProof.Rows L2
theorem bnd_assoc {α β γ : Type} (m : M α) (f : α → M β) (g : β → M γ) : bnd (bnd m f) g = bnd m fun a => bnd (f a) g := by
  funext h
  unfold bnd
  cases m h <;> rfl
theorem bnd_ret {α β : Type} (a : α) (f : α → M β) : bnd (ret a) f = f a := rfl
theorem bnd_at {α β : Type} {m : M α} {f : α → M β} {h h' : Store} {a : α} (e : m h = .ok a h') : bnd m f h = f a h' := by
  unfold bnd
  rw [e]
section
variable {K : PySem.W.Frag} {cls : Nat → Addr} {E : XK} {μ μ' : List Addr} {H H' : Hp} {h h' : Store}
mutual
theorem Rep.keep (ht : ∀ a xs, H a = some (.tup xs) → H' a = some (.tup xs)) (hf : ∀ a o u, H a = some (.frz o u) → H' a = some (.frz o u)) : ∀ {v : V} {d : D}, Rep K H μ v d → Rep K H' μ v d
  | _, _, .non => .non
  | _, _, .bl b => .bl b
  | _, _, .int i => .int i
  | _, _, .str x => .str x
  | _, _, .ty n => .ty n
  | _, _, .tup q r => .tup (by
      rcases q with (q | ⟨o, q⟩) | q
      · exact .inl (.inl (ht _ _ q))
      · exact .inl (.inr ⟨o, hf _ _ _ q⟩)
      · exact .inr q) (RepAll.keep ht hf r)
  | _, _, .fzl q r => .fzl (by
      rcases q with ⟨o, q⟩ | q
      · exact .inl ⟨o, hf _ _ _ q⟩
      · exact .inr q) (RepAll.keep ht hf r)
  | _, _, .ref q => .ref q
theorem RepAll.keep (ht : ∀ a xs, H a = some (.tup xs) → H' a = some (.tup xs)) (hf : ∀ a o u, H a = some (.frz o u) → H' a = some (.frz o u)) : ∀ {v : List V} {d : List D}, RepAll K H μ v d → RepAll K H' μ v d
  | _, _, .nil => .nil
  | _, _, .cons q r => .cons (Rep.keep ht hf q) (RepAll.keep ht hf r)
end
theorem RepF.keep (ht : ∀ a xs, H a = some (.tup xs) → H' a = some (.tup xs)) (hf : ∀ a o u, H a = some (.frz o u) → H' a = some (.frz o u)) : ∀ {v : List (PySem.Str × V)} {d : List (PySem.Str × D)}, RepF K H μ v d → RepF K H' μ v d
  | _, _, .nil => .nil
  | _, _, .cons q r => .cons (q.keep ht hf) (RepF.keep ht hf r)
theorem EnvR.keep (ht : ∀ a xs, H a = Option.some (.tup xs) → H' a = Option.some (.tup xs)) (hf : ∀ a o u, H a = Option.some (.frz o u) → H' a = Option.some (.frz o u)) : ∀ {σ : L2.St} {ρ : Env}, EnvR K H μ σ ρ → EnvR K H' μ σ ρ
  | _, _, .nil => .nil
  | _, _, .none r => .none (EnvR.keep ht hf r)
  | _, _, .some q r => .some (q.keep ht hf) (EnvR.keep ht hf r)
theorem kt {p : Addr} {xs : List V} {o : HO} (hp : H p = some (.lst xs)) : ∀ a zs, H a = some (.tup zs) → upd H p o a = some (.tup zs) := fun a zs q => by
  rw [upd_ne (fun z => by rw [z, hp] at q; cases q)]
  exact q
theorem kf {p : Addr} {xs : List V} {o : HO} (hp : H p = some (.lst xs)) : ∀ a ob u, H a = some (.frz ob u) → upd H p o a = some (.frz ob u) := fun a ob u q => by
  rw [upd_ne (fun z => by rw [z, hp] at q; cases q)]
  exact q
/-- a list outside of the store is changed -/
theorem Cfg.chg (c : Cfg K cls μ H h) {p : Addr} {xs : List V} {o : HO} (hn : p ∉ μ) (hp : H p = some (.lst xs)) : Cfg K cls μ (upd H p o) h :=
  ⟨c.len, c.nd, fun n u a h1 h2 => by
    have ha : upd H p o a = H a := upd_ne fun z => hn (by rw [← z]; exact List.mem_of_getElem? h2)
    have q := c.obj n u a h1 h2
    cases u with
    | lst ds => obtain ⟨xs, q, r⟩ := q; exact ⟨xs, by rw [ha]; exact q, r.keep (kt hp) (kf hp)⟩
    | ins k fs => obtain ⟨dx, gs, q, r⟩ := q; exact ⟨dx, gs, by rw [ha]; exact q, r.keep (kt hp) (kf hp)⟩⟩
theorem ext_out (e : Ext μ H μ' H') {p : Addr} {o : HO} (hp : H p = none) : Ext μ H μ' (upd H' p o) :=
  ⟨e.pre, fun a u q n => by
    obtain ⟨q1, n1⟩ := e.fr a u q n
    exact ⟨by rw [upd_ne (ne_of_none q hp)]; exact q1, n1⟩, e.mt⟩
/-- .. what follows is asked from an elder place -/
theorem OkG.bndB {α β γ δ : Type} {rel : Hp → List Addr → β → α → Prop} {rel2 : Hp → List Addr → δ → γ → Prop} {m : M α} {f : α → M γ} {Q : δ → Hp → Prop} (e : Ext μ H μ' H') (q : OkG K cls E rel2 μ H (G.bnd m f h) Q) :
    OkG K cls E rel μ' H' (m h) fun v H1 => ∃ a h1 μ1, Ext μ' H' μ1 H1 ∧ Cfg K cls μ1 H1 h1 ∧ rel H1 μ1 v a ∧ OkG K cls E rel2 μ H (f a h1) Q := by
  unfold G.bnd at q
  cases z : m h with
  | ok d h1 =>
    rw [z] at q
    exact fun v μ1 H1 e1 c1 r1 => ⟨d, h1, μ1, e1, c1, r1, q⟩
  | exc c fs h1 =>
    rw [z] at q
    cases fs with
    | none => exact fun μ1 H1 e1 => q μ1 H1 (e.trans e1)
    | some fs => exact fun μ1 H1 dx gs e1 => q μ1 H1 dx gs (e.trans e1)
  | stuck =>
    rw [z] at q
    exact q
theorem small_line' {n : Nat} (h : n < 1000000) : n < sizeLine := by rw [sizeLine_eq]; omega
/-- a target stores in the block's own slots alone -/
def GW (vs : List Nat) (g : TG) : Prop := ∀ (x : V) (σ : L2.St) (H : Hp) (Q : L2.St → Hp → Prop), g x σ H Q → g x σ H fun σ2 H2 => L2.wipe σ2 vs = L2.wipe σ vs ∧ Q σ2 H2
def GWs (vs : List Nat) (g : TGs) : Prop := ∀ (x : List V) (σ : L2.St) (H : Hp) (Q : L2.St → Hp → Prop), g x σ H Q → g x σ H fun σ2 H2 => L2.wipe σ2 vs = L2.wipe σ vs ∧ Q σ2 H2
theorem wipe_set {i : Nat} {o : Option V} : ∀ {vs : List Nat} (σ : L2.St), i ∈ vs → L2.wipe (σ.set i o) vs = L2.wipe σ vs
  | [], _, h => by cases h
  | v :: vs, σ, h => by
    show (L2.wipe (σ.set i o) vs).set v none = (L2.wipe σ vs).set v none
    by_cases hm : i ∈ vs
    · rw [wipe_set σ hm]
    · have hv : i = v := by
        rcases List.mem_cons.mp h with q | q
        · exact q
        · exact absurd q hm
      subst hv
      clear h
      have : ∀ (ws : List Nat) (σ : L2.St), i ∉ ws → L2.wipe (σ.set i o) ws = (L2.wipe σ ws).set i o := by
        intro ws
        induction ws with
        | nil => intro σ _; rfl
        | cons w ws ih =>
          intro σ hn
          show (L2.wipe (σ.set i o) ws).set w none = ((L2.wipe σ ws).set w none).set i o
          rw [ih σ (fun z => hn (List.mem_cons_of_mem _ z)), List.set_comm]
          exact fun z => hn (by rw [z]; exact List.mem_cons_self ..)
      rw [this vs σ hm, List.set_set]
theorem gw_name {i : Nat} {vs : List Nat} (h : i ∈ vs) : GW vs (gName i) := fun x σ H Q q => ⟨wipe_set σ h, q⟩
theorem gw_nil {vs : List Nat} : GWs vs gNil := fun x σ H Q q => ⟨q.1, rfl, q.2⟩
theorem gw_cons {vs : List Nat} {g : TG} {gs : TGs} (h : GW vs g) (mg : ∀ (x : V) (σ : L2.St) (H : Hp) (Q Q' : L2.St → Hp → Prop), (∀ σ H, Q σ H → Q' σ H) → g x σ H Q → g x σ H Q') (hs : GWs vs gs)
    (ms : ∀ (x : List V) (σ : L2.St) (H : Hp) (Q Q' : L2.St → Hp → Prop), (∀ σ H, Q σ H → Q' σ H) → gs x σ H Q → gs x σ H Q') : GWs vs (gCons g gs) := fun x σ H Q q => by
  obtain ⟨v, r, e, q⟩ := q
  refine ⟨v, r, e, mg _ _ _ _ _ ?_ (h v σ H _ q)⟩
  rintro σ1 H1 ⟨w, q1⟩
  exact ms _ _ _ _ _ (fun σ2 H2 z => ⟨z.1.trans w, z.2⟩) (hs r σ1 H1 _ q1)
theorem gm_name {i : Nat} : ∀ (x : V) (σ : L2.St) (H : Hp) (Q Q' : L2.St → Hp → Prop), (∀ σ H, Q σ H → Q' σ H) → gName i x σ H Q → gName i x σ H Q' := fun _ _ _ _ _ f q => f _ _ q
theorem gm_nil : ∀ (x : List V) (σ : L2.St) (H : Hp) (Q Q' : L2.St → Hp → Prop), (∀ σ H, Q σ H → Q' σ H) → gNil x σ H Q → gNil x σ H Q' := fun _ _ _ _ _ f q => ⟨q.1, f _ _ q.2⟩
theorem gm_cons {g : TG} {gs : TGs} (mg : ∀ (x : V) (σ : L2.St) (H : Hp) (Q Q' : L2.St → Hp → Prop), (∀ σ H, Q σ H → Q' σ H) → g x σ H Q → g x σ H Q')
    (ms : ∀ (x : List V) (σ : L2.St) (H : Hp) (Q Q' : L2.St → Hp → Prop), (∀ σ H, Q σ H → Q' σ H) → gs x σ H Q → gs x σ H Q') : ∀ (x : List V) (σ : L2.St) (H : Hp) (Q Q' : L2.St → Hp → Prop), (∀ σ H, Q σ H → Q' σ H) → gCons g gs x σ H Q → gCons g gs x σ H Q' := fun x σ H Q Q' f q => by
  obtain ⟨v, r, e, q⟩ := q
  exact ⟨v, r, e, mg _ _ _ _ _ (fun σ1 H1 q1 => ms _ _ _ _ _ f q1) q⟩
theorem gm_tup {K : PySem.W.Frag} {n : Nat} {gs : TGs} (ms : ∀ (x : List V) (σ : L2.St) (H : Hp) (Q Q' : L2.St → Hp → Prop), (∀ σ H, Q σ H → Q' σ H) → gs x σ H Q → gs x σ H Q') : ∀ (x : V) (σ : L2.St) (H : Hp) (Q Q' : L2.St → Hp → Prop), (∀ σ H, Q σ H → Q' σ H) → gTup K n gs x σ H Q → gTup K n gs x σ H Q' := fun x σ H Q Q' f q => by
  obtain ⟨a, xs, h1, h2, h3, q⟩ := q
  exact ⟨a, xs, h1, h2, h3, ms _ _ _ _ _ f q⟩
theorem gw_tup {vs : List Nat} {n : Nat} {gs : TGs} (hs : GWs vs gs) : GW vs (gTup K n gs) := fun x σ H Q q => by
  obtain ⟨a, xs, h1, h2, h3, q⟩ := q
  exact ⟨a, xs, h1, h2, h3, hs _ _ _ _ q⟩
theorem wipe_wipe (σ : L2.St) : ∀ vs : List Nat, L2.wipe (L2.wipe σ vs) vs = L2.wipe σ vs := by
  intro vs
  have key : ∀ ws : List Nat, (∀ w ∈ ws, w ∈ vs) → L2.wipe (L2.wipe σ ws) vs = L2.wipe σ vs := by
    intro ws
    induction ws with
    | nil => intro _; rfl
    | cons w ws ih =>
      intro hw
      show L2.wipe ((L2.wipe σ ws).set w none) vs = _
      rw [wipe_set _ (hw w (List.mem_cons_self ..))]
      exact ih fun z hz => hw z (List.mem_cons_of_mem _ hz)
  exact key vs fun _ h => h

theorem e_lc {wi : TI} {w : MI} {g : TG} {m : MG} {tt : TT} {t : MT} {te : TE} {el : ME} {vs : List Nat} (hw : EvI K cls E wi w) (hg : GgE K cls g m) (ht : EvT K cls E tt t) (he : EvE K cls E te el) (hwp : GW vs g) :
    EvE K cls E (tLc wi g tt te vs) (mLc w m t el vs) := fun μ H σ ρ h Q c e q => by
  refine hw μ H σ ρ h _ c e (OkG.imp (OkG.bnd (rel := rlW K cls) q) ?_)
  rintro J H1 ⟨k, h1, μ1, e1, c1, r1, q1⟩
  split at q1
  case isFalse => exact q1.elim
  case isTrue hz =>
  intro Dl hD
  have e2 : Ext μ1 H1 μ1 (upd H1 Dl (.lst [])) := ext_new c1 hD
  have c2 : Cfg K cls μ1 (upd H1 Dl (.lst [])) h1 := c1.upd_out hD
  refine ⟨fun i n H' => n = (k.ds.drop i).length ∧ ∃ (acc : List V) (done : List D) (h' : Store) (μ' : List Addr), Ext μ1 H1 μ' H' ∧ Cfg K cls μ' H' h' ∧ Dl ∉ μ' ∧ H' Dl = some (.lst acc) ∧ acc.length ≤ i ∧ RepAll K H' μ' acc done ∧ EnvR K H' μ' σ ρ ∧
      OkG K cls E (rlD K) μ1 H1 (bnd (lcGo k.lv m t el (wipeD ρ vs) (k.ds.drop i)) (fun ys => alloc (.lst (done ++ ys))) h') Q,
    ⟨_, rfl, [], [], h1, μ1, e2, c2, c1.free hD, upd_same, Nat.zero_le _, .nil, (e.ext c e1).ext c1 e2, q1⟩, ?_⟩
  rintro i n H' ⟨rfl, acc, done, h', μ', x', c', nD, hl, la, ra, e', q'⟩
  cases hd : k.ds.drop i with
  | nil =>
    rw [hd] at q'
    have hn : k.ds[i]? = none := by
      rw [List.getElem?_eq_none_iff]
      exact List.drop_eq_nil_iff.mp hd
    unfold lcGo at q'
    by_cases lv : k.lv h' = true
    · rw [bnd_at (a := []) (h' := h') (by rw [if_pos lv])] at q'
      rw [List.append_nil] at q'
      refine .inl ⟨(r1 i μ' H' h' x' c' lv).2 hn, ?_⟩
      refine q' (.ref Dl) (μ' ++ [Dl]) H' (ext_join c' x' hD) (c'.join nD ⟨acc, hl, ra.pre⟩) (.ref ?_)
      rw [← c'.len, List.getElem?_append_right (Nat.le_refl _), Nat.sub_self]
      rfl
    · unfold bnd at q'
      dsimp only at q'
      rw [if_neg lv] at q'
      exact q'.elim
  | cons d ds =>
    rw [hd] at q'
    obtain ⟨g1, g2⟩ := drop_get hd
    unfold lcGo at q'
    by_cases lv : k.lv h' = true
    · obtain ⟨a1, a2⟩ := (r1 i μ' H' h' x' c' lv).1 d g1
      have li : i < k.ds.length := by
        obtain ⟨z, _⟩ := List.getElem?_eq_some_iff.mp g1
        exact z
      refine .inr ⟨a1, fun H5 => ∃ (acc : List V) (done : List D) (h' : Store) (μ' : List Addr), Ext μ1 H1 μ' H5 ∧ Cfg K cls μ' H5 h' ∧ Dl ∉ μ' ∧ H5 Dl = some (.lst acc) ∧ acc.length ≤ i + 1 ∧ RepAll K H5 μ' acc done ∧ EnvR K H5 μ' σ ρ ∧
        OkG K cls E (rlD K) μ1 H1 (bnd (lcGo k.lv m t el (wipeD ρ vs) ds) (fun ys => alloc (.lst (done ++ ys))) h') Q, fun H5 z => ⟨ds.length, Nat.lt_succ_self _, by rw [g2], by rw [g2]; exact z⟩, fun x H2 hy => ?_⟩
      obtain ⟨b1, b2, b3⟩ := a2 x H2 hy
      have q2 : OkG K cls E (rlD K) μ1 H1 (bnd (fun h => match m d (wipeD ρ vs) with
        | none => .stuck
        | some ρ1 => bnd (t ρ1) (fun b => if b = true then bnd (el ρ1) fun y => bnd (lcGo k.lv m t el (wipeD ρ vs) ds) fun ys => ret (y :: ys) else lcGo k.lv m t el (wipeD ρ vs) ds) h) (fun ys => alloc (.lst (done ++ ys))) h') Q := by
        unfold bnd at q' ⊢
        dsimp only at q' ⊢
        rw [if_pos lv] at q'
        exact q'
      clear q'
      have hp2 := b1.fr Dl _ hl nD
      have x2 := x'.trans b1
      cases hm : m d (wipeD ρ vs) with
      | none =>
        unfold bnd at q2
        rw [hm] at q2
        exact q2.elim
      | some ρ1 =>
        have e2' : EnvR K H2 μ' (L2.wipe σ vs) (wipeD ρ vs) := (e'.ext c' b1).wipe vs
        have hw' : ∀ (Q : L2.St → Hp → Prop), g x (L2.wipe σ vs) H2 Q → g x (L2.wipe σ vs) H2 fun σ2 H3 => L2.wipe σ2 vs = L2.wipe σ vs ∧ Q σ2 H3 := fun Q z => by
          have := hwp x (L2.wipe σ vs) H2 Q z
          rw [wipe_wipe] at this
          exact this
        refine hw' _ (hg μ' H2 h' (L2.wipe σ vs) (wipeD ρ vs) x d ρ1 _ b2 e2' b3 hm fun σ2 e3 => ?_)
        rw [hm] at q2
        have q3 : OkG K cls E (rlD K) μ1 H1 (bnd (t ρ1) (fun b => bnd (if b = true then bnd (el ρ1) fun y => bnd (lcGo k.lv m t el (wipeD ρ vs) ds) fun ys => ret (y :: ys) else lcGo k.lv m t el (wipeD ρ vs) ds) (fun ys => alloc (.lst (done ++ ys)))) h') Q := by
          rw [← bnd_assoc]
          exact q2
        refine ht μ' H2 σ2 ρ1 h' _ b2 e3 (OkG.imp (OkG.bndB (rel := rlB) x2 q3) ?_)
        rintro b H3 ⟨_, h3, μ3, x3, c3, rfl, q4⟩
        have hp3 := x3.fr Dl _ hp2.1 hp2.2
        cases b with
        | false => exact ⟨acc, done, h3, μ3, x2.trans x3, c3, hp3.2, hp3.1, by omega, (ra.ext c' b1).ext b2 x3, (e'.ext c' b1).ext b2 x3, q4⟩
        | true =>
          have q5 : OkG K cls E (rlD K) μ1 H1 (bnd (el ρ1) (fun y => bnd (lcGo k.lv m t el (wipeD ρ vs) ds) (fun ys => alloc (.lst ((done ++ [y]) ++ ys)))) h3) Q := by
            rw [if_pos rfl, bnd_assoc] at q4
            have : (fun y => bnd (bnd (lcGo k.lv m t el (wipeD ρ vs) ds) fun ys => ret (y :: ys)) (fun ys => alloc (.lst (done ++ ys)))) = fun y => bnd (lcGo k.lv m t el (wipeD ρ vs) ds) (fun ys => alloc (.lst ((done ++ [y]) ++ ys))) := by
              funext y
              rw [bnd_assoc]
              congr 1
              funext ys
              rw [bnd_ret, List.append_assoc]
              rfl
            rw [this] at q4
            exact q4
          refine he μ3 H3 σ2 ρ1 h3 _ c3 (e3.ext b2 x3) (OkG.imp (OkG.bndB (rel := rlD K) (x2.trans x3) q5) ?_)
          rintro y H4 ⟨dy, h4, μ4, x4, c4, ry, q6⟩
          have hp4 := x4.fr Dl _ hp3.1 hp3.2
          refine ⟨acc, hp4.1, small_line' (by omega), acc ++ [y], done ++ [dy], h4, μ4, ext_out ((x2.trans x3).trans x4) hD, c4.chg hp4.2 hp4.1, hp4.2, upd_same, by rw [List.length_append]; simp only [List.length_cons, List.length_nil]; omega, ?_, ?_, q6⟩
          · exact RepAll.append ((((ra.ext c' b1).ext b2 x3).ext c3 x4).keep (kt hp4.1) (kf hp4.1)) (.cons (Rep.keep (kt hp4.1) (kf hp4.1) ry) .nil)
          · exact (((e'.ext c' b1).ext b2 x3).ext c3 x4).keep (kt hp4.1) (kf hp4.1)
    · unfold bnd at q'
      dsimp only at q'
      rw [if_neg lv] at q'
      exact q'.elim
end
end G

/-! Operators, built-ins, iterators. -/
namespace G
open PySem PySem.Spec PyProof.Rows L2

/-! ### mirrors of operators -/
def fAdd (x y : D) : M D := match x, y with
  | .int i, .int j => ret (.int (i + j))
  | .ref a, .ref b => fun h => match getL h a, getL h b with
    | some xs, some ys => if xs.length + ys.length ≤ sizeLine then alloc (.lst (xs ++ ys)) h else .stuck
    | _, _ => .stuck
  | .tup xs, .tup ys => if xs ≠ [] ∧ xs.length + ys.length ≤ sizeLine then ret (.tup (xs ++ ys)) else stuck
  | .str a, .str b => if a.length + b.length ≤ sizeLine then ret (.str (a ++ b)) else stuck
  | .int i, .bl k => ret (.int (i + b2i k))
  | _, _ => stuck
def fSub (x y : D) : M D := match x, y with
  | .int i, .int j => ret (.int (i - j))
  | _, _ => stuck
def mulOk (i j : Int) : Bool := decide (-(2 ^ 64) < i ∧ i < 2 ^ 64) || decide (-(2 ^ 64) < j ∧ j < 2 ^ 64) || decide (i.natAbs.log2 + j.natAbs.log2 < 1000000)
def fMul (x y : D) : M D := match x, y with
  | .int i, .int j => if mulOk i j = true then ret (.int (i * j)) else stuck
  | _, _ => stuck
def fDiv (x y : D) : M D := match x, y with
  | .int i, .int j => if j ≠ 0 ∧ j.natAbs.log2 < 9000 then ret (.int (i.fdiv j)) else stuck
  | _, _ => stuck
def fMod (x y : D) : M D := match x, y with
  | .int i, .int j => if j ≠ 0 then ret (.int (i.fmod j)) else stuck
  | _, _ => stuck
def fPow (x y : D) : M D := match x, y with
  | .int i, .int j => if 0 ≤ j ∧ j ≤ 1000000 ∧ i.natAbs < 2 ^ 64 then ret (.int (i ^ j.toNat)) else stuck
  | _, _ => stuck
def fNeg (x : D) : M D := match x with
  | .int i => ret (.int (-i))
  | _ => stuck
def fCmp (p : Int → Int → Bool) (x y : D) : M D := match x, y with
  | .int i, .int j => ret (.bl (p i j))
  | _, _ => stuck
mutual
def toPy (h : Store) : Nat → D → Option PyData
  | _, .non => some .none
  | _, .bl b => some (.bool b)
  | _, .int i => some (.int i)
  | _, .str x => some (.str x)
  | 0, _ => none
  | n + 1, .tup l => (toPys h n l).map .tuple
  | n + 1, .fzl l => (toPys h n l).map .list
  | n + 1, .ref a => match getL h a with
    | some l => (toPys h n l).map .list
    | none => none
  | _, .ty _ => none
def toPys (h : Store) : Nat → List D → Option (List PyData)
  | _, [] => some []
  | 0, _ :: _ => none
  | n + 1, d :: ds => match toPy h n d, toPys h n ds with
    | some p, some ps => some (p :: ps)
    | _, _ => none
end
/-- the depth of a search through the store -/
def deep : Nat := 2000000
def fEq (neg : Bool) (x y : D) : M D := fun h => match toPy h deep x, toPy h deep y with
  | some p, some q => if SeqAt.shaped p = true ∧ SeqAt.shaped q = true then .ok (.bl (if neg then !PyData.eqv p q else PyData.eqv p q)) h else .stuck
  | _, _ => .stuck
def fIsB (neg : Bool) (x y : D) : M D := match x, y with
  | .bl a, .bl b => ret (.bl (if neg then !decide (a = b) else decide (a = b)))
  | _, _ => stuck
def isNon : D → Bool
  | .non => true
  | _ => false
def fIsN (neg : Bool) (x y : D) : M D := match y with
  | .non => ret (.bl (if neg then !isNon x else isNon x))
  | _ => stuck
/-- the items of a list or a tuple -/
def items (h : Store) : D → Option (List D)
  | .tup l => some l
  | .fzl l => some l
  | .ref n => getL h n
  | _ => none
def fIx (x y : D) : M D := fun h => match items h x, y with
  | some l, .int i => match atI l i with
    | some d => .ok d h
    | none => .stuck
  | _, _ => .stuck
def cutD (xs : List D) (lo hi : Option Int) : List D := (xs.drop (HT.sIx xs.length 0 lo)).take (HT.sIx xs.length xs.length hi - HT.sIx xs.length 0 lo)
def fSl (x : D) (lo hi : Option Int) : M D := fun h => match x with
  | .fzl l => alloc (.lst (cutD l lo hi)) h
  | .ref n => match getL h n with
    | some l => alloc (.lst (cutD l lo hi)) h
    | none => .stuck
  | _ => .stuck
def fLen (vs : List D) : M D := fun h => match vs with
  | [x] => match items h x with
    | some l => .ok (.int l.length) h
    | none => .stuck
  | _ => .stuck
def fAbs (vs : List D) : M D := match vs with
  | [.int i] => ret (.int (if i < 0 then -i else i))
  | _ => stuck
def fInt (vs : List D) : M D := match vs with
  | [.int i] => ret (.int i)
  | [.bl k] => ret (.int (if k then 1 else 0))
  | _ => stuck
def fMax2 (vs : List D) : M D := match vs with
  | [.int i, .int j] => ret (.int (if j > i then j else i))
  | _ => stuck
def fMin2 (vs : List D) : M D := match vs with
  | [.int i, .int j] => ret (.int (if j < i then j else i))
  | _ => stuck
def fGcd (vs : List D) : M D := match vs with
  | [.int i, .int j] => ret (.int ((Nat.gcd i.natAbs j.natAbs : Nat) : Int))
  | _ => stuck
def fList (vs : List D) : M D := fun h => match vs with
  | [x] => match items h x with
    | some l => alloc (.lst l) h
    | none => .stuck
  | _ => .stuck
def tyName (h : Store) : D → Option String
  | .non => some "NoneType"
  | .bl _ => some "bool"
  | .int _ => some "int"
  | .str _ => some "str"
  | .tup _ => some "tuple"
  | .fzl _ => some "list"
  | .ref n => match h[n]? with
    | some (.lst _) => some "list"
    | _ => none
  | .ty _ => none
/-- isinstance(x, T), T a built-in class -/
def fIsi (vs : List D) : M D := fun h => match vs with
  | [x, .ty b] => match tyName h x with
    | some a => match kitB a b with
      | some r => .ok (.bl r) h
      | none => .stuck
    | none => .stuck
  | _ => .stuck
def fAppend (x : D) (vs : List D) : M D := fun h => match x, vs with
  | .ref n, [y] => match getL h n with
    | some xs => if xs.length < sizeLine then .ok .non (h.set n (.lst (xs ++ [y]))) else .stuck
    | none => .stuck
  | _, _ => .stuck
/-- o.m(..), m a list's method -/
def mBM (f : D → List D → M D) (o : ME) (a : MA) : ME := fun ρ => bnd (o ρ) fun x => fun h => match x with
  | .ref n => match getL h n with
    | some _ => bnd (a ρ) (fun vs => f x vs) h
    | none => .stuck
  | _ => .stuck
def mBM0 (f : D → List D → M D) (o : ME) : ME := fun ρ => bnd (o ρ) fun x => fun h => match x with
  | .ref n => match getL h n with
    | some _ => f x [] h
    | none => .stuck
  | _ => .stuck
/-! what is walked -/
def wList (a : ME) : MI := fun ρ => bnd (a ρ) fun x => fun h => match x with
  | .fzl l => .ok ⟨l, fun _ => true⟩ h
  | .ref n => match getL h n with
    | some l => .ok ⟨l, fun h' => decide (getL h' n = some l)⟩ h
    | none => .stuck
  | _ => .stuck
def wTup (a : ME) : MI := fun ρ => bnd (a ρ) fun x => fun h => match x with
  | .tup l => .ok ⟨l, fun _ => true⟩ h
  | _ => .stuck
def rng (lo : Int) (n : Nat) : List D := (List.range n).map fun (k : Nat) => D.int (lo + (k : Int))
def wRng1 (a : MA) : MI := fun ρ => bnd (a ρ) fun vs => match vs with
  | [.int j] => if -(2 ^ 62) ≤ j ∧ j < 2 ^ 62 then ret ⟨rng 0 j.toNat, fun _ => true⟩ else stuck
  | _ => stuck
def wRng2 (a : MA) : MI := fun ρ => bnd (a ρ) fun vs => match vs with
  | [.int i, .int j] => if -(2 ^ 62) ≤ i ∧ i < 2 ^ 62 ∧ -(2 ^ 62) ≤ j ∧ j < 2 ^ 62 then ret ⟨rng i (j - i).toNat, fun _ => true⟩ else stuck
  | _ => stuck

section
variable {K : PySem.W.Frag} {cls : Nat → Addr} {E : XK}
/-! ### operators -/
def rAddU (K : PySem.W.Frag) : R2 := fun x y H Q => (rI0 (fun i j => .int (i + j)) x y H Q ∨ rCat x y H Q) ∨ (rCatT K x y H Q ∨ (∃ i j, x = .str i ∧ y = .str j ∧ i.length + j.length ≤ sizeLine ∧ Q (.str (i ++ j)) H)) ∨ ∃ i k, x = .int i ∧ y = .bl k ∧ Q (.int (i + b2i k)) H
theorem op_addU {X : Cx} : OpR X (binaryOp .Add) (rAddU X.K) := (op_add.or op_cat).or ((op_catT.or op_add_str).or op_add_ib)
theorem o_add : OpE K cls E (rAddU K) fAdd := fun μ H h x y a b Q c r s q => by
  cases r with
  | int i =>
    cases s with
    | int j => exact .inl (.inl ⟨i, j, rfl, rfl, q.now c (.int _)⟩)
    | bl k => exact .inr (.inr ⟨i, k, rfl, rfl, q.now c (.int _)⟩)
    | _ => exact q.elim
  | str i =>
    cases s with
    | str j =>
      by_cases hz : i.length + j.length ≤ sizeLine
      · simp only [fAdd, if_pos hz] at q
        exact .inr (.inl (.inr ⟨i, j, rfl, rfl, hz, OkG.now (show OkG K cls E (rlD K) μ H (.ok (.str (i ++ j)) h) Q from q) c (.str _)⟩))
      · simp only [fAdd, if_neg hz] at q
        exact q.elim
    | _ => exact q.elim
  | tup h1 h2 =>
    cases s with
    | tup g1 g2 =>
      rename_i a xs ds b ys es
      by_cases hz : ds ≠ [] ∧ ds.length + es.length ≤ sizeLine
      · simp only [fAdd, if_pos hz] at q
        have l1 := RepAll.length h2
        have l2 := RepAll.length g2
        refine .inr (.inl (.inl ⟨_, _, xs, ys, rfl, rfl, h1, g1, ?_, by omega, fun z => ?_, fun z => ?_⟩))
        · intro z
          subst z
          cases h2
          exact hz.1 rfl
        · subst z
          cases g2
          rw [List.append_nil] at q
          exact OkG.now (show OkG K cls E (rlD K) μ H (.ok (.tup ds) h) Q from q) c (.tup h1 h2)
        · exact ok_tup c (RepAll.append h2 g2) q
      · simp only [fAdd, if_neg hz] at q
        exact q.elim
    | _ => exact q.elim
  | ref hn =>
    cases s with
    | ref hm =>
      rename_i n p m p'
      cases e1 : getL h n with
      | none => simp only [fAdd, e1] at q; exact q.elim
      | some xs =>
        cases e2 : getL h m with
        | none => simp only [fAdd, e1, e2] at q; exact q.elim
        | some ys =>
          simp only [fAdd, e1, e2] at q
          by_cases hz : xs.length + ys.length ≤ sizeLine
          · rw [if_pos hz] at q
            obtain ⟨_, hp, vs, hv, rv⟩ := c.at (getL_some e1)
            rw [hn] at hp
            cases hp
            obtain ⟨_, hp, ws, hw, rw'⟩ := c.at (getL_some e2)
            rw [hm] at hp
            cases hp
            exact .inl (.inr ⟨_, _, vs, ws, rfl, rfl, hv, hw, by rw [RepAll.length rv, RepAll.length rw']; exact hz, ok_alloc c (RepAll.append rv rw') q⟩)
          · rw [if_neg hz] at q
            exact q.elim
    | _ => exact q.elim
  | _ => cases s <;> exact q.elim
theorem o_int {g : Int → Int → Int} {f : D → D → M D} (hf : ∀ i j, f (.int i) (.int j) = ret (.int (g i j))) (hs : ∀ x y, (∀ i j, ¬ (x = D.int i ∧ y = D.int j)) → f x y = stuck) : OpE K cls E (rI0 fun i j => .int (g i j)) f := fun μ H h x y a b Q c r s q => by
  by_cases hz : ∃ i j, a = D.int i ∧ b = D.int j
  · obtain ⟨i, j, rfl, rfl⟩ := hz
    cases r
    cases s
    rw [hf] at q
    exact ⟨i, j, rfl, rfl, OkG.now (show OkG K cls E (rlD K) μ H (.ok (.int (g i j)) h) Q from q) c (.int _)⟩
  · rw [hs a b fun i j z => hz ⟨i, j, z⟩] at q
    exact q.elim
theorem o_intC {C : Int → Int → Prop} {g : Int → Int → Int} {f : D → D → M D} (hf : ∀ i j h, (C i j ∧ f (.int i) (.int j) h = .ok (.int (g i j)) h) ∨ f (.int i) (.int j) h = .stuck) (hs : ∀ x y, (∀ i j, ¬ (x = D.int i ∧ y = D.int j)) → f x y = stuck) :
    OpE K cls E (rI C fun i j => .int (g i j)) f := fun μ H h x y a b Q c r s q => by
  by_cases hz : ∃ i j, a = D.int i ∧ b = D.int j
  · obtain ⟨i, j, rfl, rfl⟩ := hz
    cases r
    cases s
    rcases hf i j h with ⟨hc, e⟩ | e
    · rw [e] at q
      exact ⟨i, j, rfl, rfl, hc, OkG.now q c (.int _)⟩
    · rw [e] at q
      exact q.elim
  · rw [hs a b fun i j z => hz ⟨i, j, z⟩] at q
    exact q.elim
theorem stk {f : D → D → M D} (h : ∀ x y, (∀ i j, ¬ (x = D.int i ∧ y = D.int j)) → f x y = stuck) : ∀ x y, (∀ i j, ¬ (x = D.int i ∧ y = D.int j)) → f x y = stuck := h
theorem o_sub : OpE K cls E (rI0 fun i j => .int (i - j)) fSub := o_int (fun _ _ => rfl) fun x y z => by
  cases x <;> cases y <;> first | rfl | exact absurd ⟨rfl, rfl⟩ (z _ _)
def CMulU (i j : Int) : Prop := mulOk i j = true
theorem op_mulU {X : Cx} : OpR X (binaryOp .Mult) (rI CMulU fun i j => .int (i * j)) := opI fun _ _ _ _ _ _ _ hc q => mul_int q (by
  unfold CMulU mulOk at hc
  simp only [Bool.or_eq_true, decide_eq_true_eq] at hc
  rcases hc with hc | hc
  · exact CMul.ok hc
  · exact CMulW.ok hc)
theorem o_mul : OpE K cls E (rI CMulU fun i j => .int (i * j)) fMul := o_intC (fun i j h => by
  by_cases z : mulOk i j = true
  · exact .inl ⟨z, by simp only [fMul, if_pos z]; rfl⟩
  · exact .inr (by simp only [fMul, if_neg z]; rfl)) fun x y z => by
  cases x <;> cases y <;> first | rfl | exact absurd ⟨rfl, rfl⟩ (z _ _)
def CDivU (_ j : Int) : Prop := j ≠ 0 ∧ j.natAbs.log2 < 9000
theorem op_divU {X : Cx} : OpR X (binaryOp .FloorDiv) (rI CDivU fun i j => .int (i.fdiv j)) := opI fun _ _ _ _ _ _ _ hc q => floordiv_int hc.1 q (.inl (PyProof.noPylong_of_log2 hc.2))
theorem o_div : OpE K cls E (rI CDivU fun i j => .int (i.fdiv j)) fDiv := o_intC (fun i j h => by
  by_cases z : j ≠ 0 ∧ j.natAbs.log2 < 9000
  · exact .inl ⟨z, by simp only [fDiv, if_pos z]; rfl⟩
  · exact .inr (by simp only [fDiv, if_neg z]; rfl)) fun x y z => by
  cases x <;> cases y <;> first | rfl | exact absurd ⟨rfl, rfl⟩ (z _ _)
theorem o_mod : OpE K cls E (rI (fun _ j => j ≠ 0) fun i j => .int (i.fmod j)) fMod := o_intC (fun i j h => by
  by_cases z : j ≠ 0
  · exact .inl ⟨z, by simp only [fMod, if_pos z]; rfl⟩
  · exact .inr (by simp only [fMod, if_neg z]; rfl)) fun x y z => by
  cases x <;> cases y <;> first | rfl | exact absurd ⟨rfl, rfl⟩ (z _ _)
theorem o_pow : OpE K cls E (rI CPow fun i j => .int (i ^ j.toNat)) fPow := o_intC (fun i j h => by
  by_cases z : 0 ≤ j ∧ j ≤ 1000000 ∧ i.natAbs < 2 ^ 64
  · exact .inl ⟨z, by simp only [fPow, if_pos z]; rfl⟩
  · exact .inr (by simp only [fPow, if_neg z]; rfl)) fun x y z => by
  cases x <;> cases y <;> first | rfl | exact absurd ⟨rfl, rfl⟩ (z _ _)
theorem u_neg : UnE K cls E (rU fun i => .int (-i)) fNeg := fun μ H h x a Q c r q => by
  cases r with
  | int i => exact ⟨i, rfl, q.now c (.int _)⟩
  | _ => exact q.elim
theorem o_cmp (p : Int → Int → Bool) : OpE K cls E (rI0 fun i j => .bl (p i j)) (fCmp p) := fun μ H h x y a b Q c r s q => by
  cases r with
  | int i =>
    cases s with
    | int j => exact ⟨i, j, rfl, rfl, q.now c (.bl _)⟩
    | _ => exact q.elim
  | _ => cases s <;> exact q.elim
/-! == of data -/
mutual
theorem dp_of {μ : List Addr} {H : Hp} {h : Store} (c : Cfg K cls μ H h) : ∀ (n : Nat) {v : V} {d : D} {p : PyData}, Rep K H μ v d → toPy h n d = some p → Dp K H v p
  | _, _, _, _, .non, e => by unfold toPy at e; cases e; exact .non
  | _, _, _, _, .bl b, e => by unfold toPy at e; cases e; exact .bl b
  | _, _, _, _, .int b, e => by unfold toPy at e; cases e; exact .int b
  | _, _, _, _, .str b, e => by unfold toPy at e; cases e; exact .str b
  | 0, _, _, _, .ty b, e => by unfold toPy at e; cases e
  | _ + 1, _, _, _, .ty b, e => by unfold toPy at e; cases e
  | 0, _, _, _, .tup _ _, e => by unfold toPy at e; cases e
  | n + 1, _, _, _, .tup h1 h2, e => by
    unfold toPy at e
    obtain ⟨ps, e1, e2⟩ := Option.map_eq_some_iff.mp e
    subst e2
    exact .tup h1 (dps_of c n h2 e1)
  | 0, _, _, _, .fzl _ _, e => by unfold toPy at e; cases e
  | n + 1, _, _, _, .fzl h1 h2, e => by
    unfold toPy at e
    obtain ⟨ps, e1, e2⟩ := Option.map_eq_some_iff.mp e
    subst e2
    exact .lst (FzL.sq K h1) (dps_of c n h2 e1)
  | 0, _, _, _, .ref _, e => by unfold toPy at e; cases e
  | n + 1, _, _, _, .ref (n := k) hn, e => by
    unfold toPy at e
    cases hx : getL h k with
    | none => rw [hx] at e; cases e
    | some l =>
      rw [hx] at e
      obtain ⟨ps, e1, e2⟩ := Option.map_eq_some_iff.mp e
      subst e2
      obtain ⟨_, hp, vs, hv, rv⟩ := c.at (getL_some hx)
      rw [hn] at hp
      cases hp
      exact .lst (SqL.of hv) (dps_of c n rv e1)
theorem dps_of {μ : List Addr} {H : Hp} {h : Store} (c : Cfg K cls μ H h) : ∀ (n : Nat) {vs : List V} {ds : List D} {ps : List PyData}, RepAll K H μ vs ds → toPys h n ds = some ps → DpAll K H vs ps
  | _, _, _, _, .nil, e => by unfold toPys at e; cases e; exact .nil
  | 0, _, _, _, .cons _ _, e => by unfold toPys at e; cases e
  | n + 1, _, _, _, .cons (d := d) (ds := ds) h1 h2, e => by
    unfold toPys at e
    cases e1 : toPy h n d with
    | none => rw [e1] at e; cases e
    | some p =>
      cases e2 : toPys h n ds with
      | none => rw [e1, e2] at e; cases e
      | some ps =>
        rw [e1, e2] at e
        cases e
        exact .cons (dp_of c n h1 e1) (dps_of c n h2 e2)
end
theorem o_eq : OpE K cls E (rEqD K) (fEq false) := fun μ H h x y a b Q c r s q => by
  unfold fEq at q
  cases e1 : toPy h deep a with
  | none => rw [e1] at q; exact q.elim
  | some p =>
    cases e2 : toPy h deep b with
    | none => rw [e1, e2] at q; exact q.elim
    | some t =>
      rw [e1, e2] at q
      dsimp only at q
      split at q
      · next hz => exact ⟨p, t, dp_of c _ r e1, dp_of c _ s e2, hz.1, hz.2, q.now c (.bl _)⟩
      · exact q.elim
theorem o_ne : OpE K cls E (rNeD K) (fEq true) := fun μ H h x y a b Q c r s q => by
  unfold fEq at q
  cases e1 : toPy h deep a with
  | none => rw [e1] at q; exact q.elim
  | some p =>
    cases e2 : toPy h deep b with
    | none => rw [e1, e2] at q; exact q.elim
    | some t =>
      rw [e1, e2] at q
      dsimp only at q
      split at q
      · next hz => exact ⟨p, t, dp_of c _ r e1, dp_of c _ s e2, hz.1, hz.2, q.now c (.bl _)⟩
      · exact q.elim
theorem o_isB : OpE K cls E rIsB (fIsB false) := fun μ H h x y a b Q c r s q => by
  cases r with
  | bl i =>
    cases s with
    | bl j => exact ⟨i, j, rfl, rfl, q.now c (.bl _)⟩
    | _ => exact q.elim
  | _ => cases s <;> exact q.elim
theorem o_notB : OpE K cls E rNotB (fIsB true) := fun μ H h x y a b Q c r s q => by
  cases r with
  | bl i =>
    cases s with
    | bl j => exact ⟨i, j, rfl, rfl, q.now c (.bl _)⟩
    | _ => exact q.elim
  | _ => cases s <;> exact q.elim
theorem isNon_of {μ : List Addr} {H : Hp} {v : V} {d : D} (r : Rep K H μ v d) : decide (v = .non) = isNon d := by
  cases r <;> simp [isNon]
def rIsNo : R2 := fun x y H Q => y = .non ∧ Q (.bl (decide (x = .non))) H
def rNotNo : R2 := fun x y H Q => y = .non ∧ Q (.bl (!decide (x = .non))) H
theorem op_isNo {X : Cx} : OpR X (compareOp .Is) rIsNo := op_isN
theorem op_notNo {X : Cx} : OpR X (compareOp .IsNot) rNotNo := op_notN
theorem o_isN : OpE K cls E rIsNo (fIsN false) := fun μ H h x y a b Q c r s q => by
  cases s with
  | non => exact ⟨rfl, by rw [isNon_of r]; exact q.now c (.bl _)⟩
  | _ => exact q.elim
theorem o_notN : OpE K cls E rNotNo (fIsN true) := fun μ H h x y a b Q c r s q => by
  cases s with
  | non => exact ⟨rfl, by rw [isNon_of r]; exact q.now c (.bl _)⟩
  | _ => exact q.elim
/-! items, slices -/
theorem atI_len {α β : Type} {xs : List α} {ys : List β} (h : xs.length = ys.length) (i : Int) : ixN xs.length i = ixN ys.length i := by rw [h]
theorem atI_rep {μ : List Addr} {H : Hp} {xs : List V} {ds : List D} {i : Int} {d : D} (r : RepAll K H μ xs ds) (e : atI ds i = some d) : ∃ v, atI xs i = some v ∧ Rep K H μ v d := by
  unfold atI at e ⊢
  obtain ⟨j, e1, e2⟩ := Option.bind_eq_some_iff.mp e
  obtain ⟨v, hv, rv⟩ := r.get e2
  refine ⟨v, ?_, rv⟩
  rw [RepAll.length r, e1]
  exact hv
theorem seq_of {μ : List Addr} {H : Hp} {h : Store} (c : Cfg K cls μ H h) {v : V} {d : D} {l : List D} (r : Rep K H μ v d) (e : items h d = some l) :
    ∃ p xs, v = .ref p ∧ RepAll K H μ xs l ∧ ((SqT K H p xs ∧ ∃ m, d = .tup m) ∨ (SqL K H p xs ∧ ∀ m, d ≠ .tup m)) := by
  cases r with
  | tup h1 h2 => cases e; exact ⟨_, _, rfl, h2, .inl ⟨h1, _, rfl⟩⟩
  | fzl h1 h2 => cases e; exact ⟨_, _, rfl, h2, .inr ⟨FzL.sq K h1, by simp⟩⟩
  | ref hn =>
    obtain ⟨_, hp, vs, hv, rv⟩ := c.at (getL_some e)
    rw [hn] at hp
    cases hp
    exact ⟨_, vs, rfl, rv, .inr ⟨SqL.of hv, by simp⟩⟩
  | _ => cases e
theorem o_ix : OpE K cls E (rIx K) fIx := fun μ H h x y a b Q c r s q => by
  unfold fIx at q
  cases e : items h a with
  | none => rw [e] at q; exact q.elim
  | some l =>
    rw [e] at q
    cases s with
    | int i =>
      dsimp only at q
      cases e2 : atI l i with
      | none => rw [e2] at q; exact q.elim
      | some d =>
        rw [e2] at q
        obtain ⟨p, xs, rfl, ra, hh⟩ := seq_of c r e
        obtain ⟨v, hv, rv⟩ := atI_rep ra e2
        rcases hh with ⟨hh, _⟩ | ⟨hh, _⟩
        · exact .inr (.inl ⟨p, xs, i, v, rfl, rfl, hh, hv, q.now c rv⟩)
        · exact .inl ⟨p, xs, i, v, rfl, rfl, hh, hv, q.now c rv⟩
    | _ => exact q.elim
theorem cut_rep {μ : List Addr} {H : Hp} {xs : List V} {ds : List D} (r : RepAll K H μ xs ds) (lo hi : Option Int) : RepAll K H μ (cutV xs lo hi) (cutD ds lo hi) := by
  unfold cutV cutD
  rw [RepAll.length r]
  exact (r.drop _).take _
theorem sl_lst : SlE K cls E (rSlL K) fSl := fun μ H h x a l u Q c r q => by
  unfold fSl at q
  cases r with
  | fzl h1 h2 => exact ⟨_, _, rfl, FzL.sq K h1, ok_alloc c (cut_rep h2 l u) q⟩
  | ref hn =>
    rename_i n p
    dsimp only at q
    cases e : getL h n with
    | none => rw [e] at q; exact q.elim
    | some xs =>
      rw [e] at q
      obtain ⟨_, hp, vs, hv, rv⟩ := c.at (getL_some e)
      rw [hn] at hp
      cases hp
      exact ⟨_, vs, rfl, SqL.of hv, ok_alloc c (cut_rep rv l u) q⟩
  | _ => exact q.elim
/-! calls of built-ins -/
def rLenS (K : PySem.W.Frag) : List V → Hp → VK → Prop := fun xs H Q => ∃ p ys, xs = [.ref p] ∧ (SqL K H p ys ∨ SqT K H p ys) ∧ Q (.int ys.length) H
theorem cr_len {X : Cx} : CallR X (.builtin "len") (rLenS X.K) := call_len_seq
theorem c_len : CaE K cls E (rLenS K) fLen := fun μ H h xs as Q c r q => by
  cases r with
  | nil => exact q.elim
  | cons r1 r2 =>
    cases r2 with
    | cons _ _ => exact q.elim
    | nil =>
      rename_i v d
      unfold fLen at q
      dsimp only at q
      cases e : items h d with
      | none => rw [e] at q; exact q.elim
      | some l =>
        rw [e] at q
        obtain ⟨p, xs, rfl, ra, hh⟩ := seq_of c r1 e
        refine ⟨p, xs, rfl, ?_, ?_⟩
        · rcases hh with ⟨hh, _⟩ | ⟨hh, _⟩
          · exact .inr hh
          · exact .inl hh
        · rw [RepAll.length ra]
          exact OkG.now q c (.int _)
def rAbs1 : List V → Hp → VK → Prop := fun xs H Q => ∃ i, xs = [.int i] ∧ Q (.int (if i < 0 then -i else i)) H
theorem cr_abs {X : Cx} : CallR X (.builtin "abs") rAbs1 := call_abs
theorem c_abs : CaE K cls E rAbs1 fAbs := fun μ H h xs as Q c r q => by
  cases r with
  | nil => exact q.elim
  | cons r1 r2 =>
    cases r2 with
    | cons _ _ => cases r1 <;> exact q.elim
    | nil =>
      cases r1 with
      | int i => exact ⟨i, rfl, OkG.now (show OkG K cls E (rlD K) μ H (.ok _ h) Q from q) c (.int _)⟩
      | _ => exact q.elim
def rInt1 : List V → Hp → VK → Prop := fun xs H Q => (∃ i, xs = [.int i] ∧ Q (.int i) H) ∨ ∃ k, xs = [.bl k] ∧ Q (.int (if k then 1 else 0)) H
theorem cr_int {X : Cx} : CallR X (.type "int") rInt1 := call_int1
theorem c_int : CaE K cls E rInt1 fInt := fun μ H h xs as Q c r q => by
  cases r with
  | nil => exact q.elim
  | cons r1 r2 =>
    cases r2 with
    | cons _ _ => cases r1 <;> exact q.elim
    | nil =>
      cases r1 with
      | int i => exact .inl ⟨i, rfl, OkG.now (show OkG K cls E (rlD K) μ H (.ok _ h) Q from q) c (.int _)⟩
      | bl i => exact .inr ⟨i, rfl, OkG.now (show OkG K cls E (rlD K) μ H (.ok _ h) Q from q) c (.int _)⟩
      | _ => exact q.elim
theorem two_of {μ : List Addr} {H : Hp} {h : Store} {xs : List V} {as : List D} {f : List D → M D} {Q : VK} (hf : ∀ ds, (∀ i j, ds ≠ [D.int i, .int j]) → f ds = stuck) (r : RepAll K H μ xs as) (q : OkG K cls E (rlD K) μ H (f as h) Q) :
    ∃ i j, xs = [.int i, .int j] ∧ as = [.int i, .int j] := by
  by_cases hz : ∃ i j, as = [D.int i, .int j]
  · obtain ⟨i, j, rfl⟩ := hz
    cases r with
    | cons r1 r2 =>
      cases r2 with
      | cons r2 r3 =>
        cases r3
        cases r1
        cases r2
        exact ⟨i, j, rfl, rfl⟩
  · rw [hf as fun i j z => hz ⟨i, j, z⟩] at q
    exact q.elim
theorem stk2 (f : List D → M D) (g : Int → Int → M D) (hf : f = fun vs => match vs with
    | [.int i, .int j] => g i j
    | _ => stuck) : ∀ ds, (∀ i j, ds ≠ [D.int i, .int j]) → f ds = stuck := fun ds z => by
  subst hf
  dsimp only
  split
  · exact absurd rfl (z _ _)
  · rfl
def rMaxI : List V → Hp → VK → Prop := fun xs H Q => ∃ i j, xs = [.int i, .int j] ∧ Q (.int (if j > i then j else i)) H
theorem cr_max2 {X : Cx} (hc : X.calm = true) : CallR X (.builtin "max") rMaxI := call_max2 hc
theorem c_max2 : CaE K cls E rMaxI fMax2 := fun μ H h xs as Q c r q => by
  obtain ⟨i, j, rfl, rfl⟩ := two_of (stk2 fMax2 _ rfl) r q
  exact ⟨i, j, rfl, OkG.now (show OkG K cls E (rlD K) μ H (.ok _ h) Q from q) c (.int _)⟩
def rMinI : List V → Hp → VK → Prop := fun xs H Q => ∃ i j, xs = [.int i, .int j] ∧ Q (.int (if j < i then j else i)) H
theorem cr_min2 {X : Cx} (hc : X.calm = true) : CallR X (.builtin "min") rMinI := call_min2 hc
theorem c_min2 : CaE K cls E rMinI fMin2 := fun μ H h xs as Q c r q => by
  obtain ⟨i, j, rfl, rfl⟩ := two_of (stk2 fMin2 _ rfl) r q
  exact ⟨i, j, rfl, OkG.now (show OkG K cls E (rlD K) μ H (.ok _ h) Q from q) c (.int _)⟩
theorem c_gcd : CaE K cls E rGcd fGcd := fun μ H h xs as Q c r q => by
  obtain ⟨i, j, rfl, rfl⟩ := two_of (stk2 fGcd _ rfl) r q
  exact ⟨i, j, rfl, OkG.now (show OkG K cls E (rlD K) μ H (.ok _ h) Q from q) c (.int _)⟩
def rListO (K : PySem.W.Frag) : List V → Hp → VK → Prop := fun xs H Q => ∃ p ys, xs = [.ref p] ∧ (SqL K H p ys ∨ SqT K H p ys) ∧ ∀ l, H l = none → Q (.ref l) (upd H l (.lst ys))
theorem cr_list {X : Cx} : CallR X (.type "list") (rListO X.K) := call_list_of
theorem c_list : CaE K cls E (rListO K) fList := fun μ H h xs as Q c r q => by
  cases r with
  | nil => exact q.elim
  | cons r1 r2 =>
    cases r2 with
    | cons _ _ => exact q.elim
    | nil =>
      rename_i v d
      unfold fList at q
      dsimp only at q
      cases e : items h d with
      | none => rw [e] at q; exact q.elim
      | some l =>
        rw [e] at q
        obtain ⟨p, xs, rfl, ra, hh⟩ := seq_of c r1 e
        refine ⟨p, xs, rfl, ?_, ok_alloc c ra q⟩
        rcases hh with ⟨hh, _⟩ | ⟨hh, _⟩
        · exact .inr hh
        · exact .inl hh
theorem ty_of {μ : List Addr} {H : Hp} {h : Store} (c : Cfg K cls μ H h) {v : V} {d : D} {a : String} (r : Rep K H μ v d) (e : tyName h d = some a) : TyX K H v (.type a) := by
  cases r with
  | non => cases e; exact .base .non
  | bl b => cases e; exact .base (.bl b)
  | int b => cases e; exact .base (.int b)
  | str b => cases e; exact .base (.str b)
  | ty b => cases e
  | tup h1 h2 =>
    cases e
    rcases h1 with (h1 | ⟨o, h1⟩) | ⟨o, its, n, h1, h2, _⟩
    · exact .base (.tup h1)
    · exact .fTuple h1
    · exact .kTuple h1 h2
  | fzl h1 h2 =>
    cases e
    rcases h1 with ⟨o, h1⟩ | ⟨o, its, n, h1, h2, _⟩
    · exact .base (.frz h1)
    · exact .kList h1 h2
  | ref hn =>
    rename_i n p
    unfold tyName at e
    dsimp only at e
    cases e1 : h[n]? with
    | none => rw [e1] at e; cases e
    | some o =>
      rw [e1] at e
      cases o with
      | ins _ _ => cases e
      | lst l =>
        cases e
        obtain ⟨_, hp, vs, hv, rv⟩ := c.at e1
        rw [hn] at hp
        cases hp
        exact .base (.lst hv)
theorem c_isi : CaE K cls E (rIsi K) fIsi := fun μ H h xs as Q c r q => by
  unfold fIsi at q
  cases r with
  | nil => exact q.elim
  | cons r1 r2 =>
    cases r2 with
    | nil => exact q.elim
    | cons r2 r3 =>
      cases r3 with
      | cons _ _ => cases r2 <;> exact q.elim
      | nil =>
        cases r2 with
        | ty b =>
          rename_i v d
          dsimp only at q
          cases e : tyName h d with
          | none => rw [e] at q; exact q.elim
          | some a =>
            rw [e] at q
            dsimp only at q
            cases e2 : kitB a b with
            | none => rw [e2] at q; exact q.elim
            | some k =>
              rw [e2] at q
              exact ⟨v, .ty b, .type a, .type b, k, rfl, .ty b, ty_of c r1 e, kit_ty e2, q.now c (.bl k)⟩
        | _ => exact q.elim
/-! methods of lists -/
def MtE (K : PySem.W.Frag) (cls : Nat → Addr) (E : XK) (r : V → List V → Hp → VK → Prop) (f : D → List D → M D) : Prop := ∀ μ H h n p xs as (Q : VK), Cfg K cls μ H h → μ[n]? = some p → (∃ l, getL h n = some l) → RepAll K H μ xs as → OkG K cls E (rlD K) μ H (f (.ref n) as h) Q → r (.ref p) xs H Q
theorem e_bm {r : V → List V → Hp → VK → Prop} {f : D → List D → M D} {to : TE} {ta : TA} {o : ME} {a : MA} (hr : MtE K cls E r f) (ho : EvE K cls E to o) (ha : EvA K cls E ta a)
    (hf : ∀ n as h, getL h n = none → f (.ref n) as h = .stuck) : EvE K cls E (tBM K "list" r to ta) (mBM f o a) := fun μ H σ ρ h Q c e q => by
  refine ho μ H σ ρ h _ c e (OkG.imp (OkG.bnd (rel := rlD K) q) ?_)
  rintro v H1 ⟨d, h1, μ1, e1, c1, r1, q1⟩
  cases r1 with
  | ref hn =>
    rename_i n p
    dsimp only at q1
    cases e2 : getL h1 n with
    | none => rw [e2] at q1; exact q1.elim
    | some l =>
      rw [e2] at q1
      obtain ⟨_, hp, vs, hv, rv⟩ := c1.at (getL_some e2)
      rw [hn] at hp
      cases hp
      refine ⟨.inl ⟨rfl, vs, SqL.of hv⟩, ?_⟩
      refine ha μ1 H1 σ ρ h1 _ c1 (e.ext c e1) (OkG.imp (OkG.bnd (rel := rlA K) q1) ?_)
      rintro ws H2 ⟨ds, h2, μ2, e3, c2, r2, q2⟩
      refine hr μ2 H2 h2 n _ ws ds Q c2 (e3.at hn) ?_ r2 q2
      cases e4 : getL h2 n with
      | none => rw [hf n ds h2 e4] at q2; exact q2.elim
      | some l => exact ⟨l, rfl⟩
  | _ => exact q1.elim
theorem m_append : MtE K cls E rAppend fAppend := fun μ H h n p xs as Q c hn hl r q => by
  obtain ⟨l, e⟩ := hl
  unfold fAppend at q
  cases r with
  | nil => exact q.elim
  | cons r1 r2 =>
    cases r2 with
    | cons _ _ => exact q.elim
    | nil =>
      rename_i v d
      dsimp only at q
      rw [e] at q
      dsimp only at q
      split at q
      · next hz =>
        obtain ⟨_, hp, vs, hv, rv⟩ := c.at (getL_some e)
        rw [hn] at hp
        cases hp
        refine ⟨p, vs, v, rfl, rfl, hv, by rw [RepAll.length rv]; exact hz, ?_⟩
        exact OkG.now (OkG.ext (ext_set (List.mem_of_getElem? hn)) q) (c.setL hn (RepAll.append rv (.cons r1 .nil))) .non
      · exact q.elim
theorem append_none : ∀ n as h, getL h n = none → fAppend (.ref n) as h = .stuck := fun n as h e => by
  unfold fAppend
  cases as with
  | nil => rfl
  | cons a as =>
    cases as with
    | nil => dsimp only; rw [e]
    | cons _ _ => rfl
/-! iterators -/
theorem it_list {μ : List Addr} {H : Hp} {h : Store} {n : Nat} {p : Addr} {l : List D} (hn : μ[n]? = some p) : ItOk K cls (Itl K p) ⟨l, fun h' => decide (getL h' n = some l)⟩ μ H := fun i μ1 H1 h1 e1 c1 hl => by
  have hl := of_decide_eq_true hl
  obtain ⟨_, hp, vs, hv, rv⟩ := c1.at (getL_some hl)
  rw [e1.at hn] at hp
  cases hp
  refine ⟨fun d hd => ?_, fun hd => ?_⟩
  · obtain ⟨v, g1, g2⟩ := rv.get hd
    refine ⟨⟨vs, v, SqL.of hv, g1⟩, fun x H' hy => ?_⟩
    obtain ⟨rfl, hx⟩ := hy
    have := hx vs (SqL.of hv)
    rw [g1] at this
    cases this
    exact ⟨Ext.refl _ _, c1, g2⟩
  · exact ⟨vs, SqL.of hv, by rw [RepAll.length rv]; exact List.getElem?_eq_none_iff.mp hd⟩
theorem it_fzl {μ : List Addr} {H : Hp} {h : Store} {p : Addr} {l : List D} {xs : List V} (c : Cfg K cls μ H h) (hf : FzL K H p xs) (r : RepAll K H μ xs l) : ItOk K cls (Itl K p) ⟨l, fun _ => true⟩ μ H := fun i μ1 H1 h1 e1 c1 hl => by
  have hf := fzL_ext c e1 hf
  have r := RepAll.ext c e1 r
  refine ⟨fun d hd => ?_, fun hd => ?_⟩
  · obtain ⟨v, g1, g2⟩ := r.get hd
    refine ⟨⟨xs, v, FzL.sq K hf, g1⟩, fun x H' hy => ?_⟩
    obtain ⟨rfl, hx⟩ := hy
    have := hx xs (FzL.sq K hf)
    rw [g1] at this
    cases this
    exact ⟨Ext.refl _ _, c1, g2⟩
  · exact ⟨xs, FzL.sq K hf, by rw [RepAll.length r]; exact List.getElem?_eq_none_iff.mp hd⟩
theorem it_tup {μ : List Addr} {H : Hp} {h : Store} {p : Addr} {l : List D} {xs : List V} (c : Cfg K cls μ H h) (hf : SqT K H p xs) (r : RepAll K H μ xs l) : ItOk K cls (Itt K p) ⟨l, fun _ => true⟩ μ H := fun i μ1 H1 h1 e1 c1 hl => by
  have hf := sqT_ext c e1 hf
  have r := RepAll.ext c e1 r
  refine ⟨fun d hd => ?_, fun hd => ?_⟩
  · obtain ⟨v, g1, g2⟩ := r.get hd
    refine ⟨⟨xs, v, hf, g1⟩, fun x H' hy => ?_⟩
    obtain ⟨rfl, hx⟩ := hy
    have := hx xs hf
    rw [g1] at this
    cases this
    exact ⟨Ext.refl _ _, c1, g2⟩
  · exact ⟨xs, hf, by rw [RepAll.length r]; exact List.getElem?_eq_none_iff.mp hd⟩
theorem it_rng {μ : List Addr} {H : Hp} (lo : Int) (n : Nat) : ItOk K cls (Itr lo n) ⟨rng lo n, fun _ => true⟩ μ H := fun i μ1 H1 h1 e1 c1 hl => by
  refine ⟨fun d hd => ?_, fun hd => ?_⟩
  · have hd' : (rng lo n)[i]? = some d := hd
    unfold rng at hd'
    rw [List.getElem?_map] at hd'
    obtain ⟨k, hk, rfl⟩ := Option.map_eq_some_iff.mp hd'
    obtain ⟨hi, hk⟩ := List.getElem?_eq_some_iff.mp hk
    rw [List.getElem_range] at hk
    subst hk
    rw [List.length_range] at hi
    refine ⟨hi, fun x H' hy => ?_⟩
    obtain ⟨rfl, rfl⟩ := hy
    exact ⟨Ext.refl _ _, c1, .int _⟩
  · have hd' := List.getElem?_eq_none_iff.mp hd
    have : (rng lo n).length = n := by simp [rng]
    show n ≤ i
    rw [this] at hd'
    exact hd'
theorem i_list {ta : TE} {a : ME} (ha : EvE K cls E ta a) : EvI K cls E (iList K ta) (wList a) := fun μ H σ ρ h R c e q => by
  refine ha μ H σ ρ h _ c e (OkG.imp (OkG.bnd (rel := rlD K) q) ?_)
  rintro v H1 ⟨d, h1, μ1, e1, c1, r1, q1⟩
  cases r1 with
  | fzl h1 h2 => exact ⟨_, rfl, ⟨_, FzL.sq K h1⟩, q1.now c1 (it_fzl c1 h1 h2)⟩
  | ref hn =>
    rename_i n p
    dsimp only at q1
    cases e2 : getL h1 n with
    | none => rw [e2] at q1; exact q1.elim
    | some l =>
      rw [e2] at q1
      obtain ⟨_, hp, vs, hv, rv⟩ := c1.at (getL_some e2)
      rw [hn] at hp
      cases hp
      exact ⟨_, rfl, ⟨vs, SqL.of hv⟩, OkG.now q1 c1 (it_list (h := h1) hn)⟩
  | _ => exact q1.elim
theorem i_tup {ta : TE} {a : ME} (ha : EvE K cls E ta a) : EvI K cls E (iTup K ta) (wTup a) := fun μ H σ ρ h R c e q => by
  refine ha μ H σ ρ h _ c e (OkG.imp (OkG.bnd (rel := rlD K) q) ?_)
  rintro v H1 ⟨d, h1, μ1, e1, c1, r1, q1⟩
  cases r1 with
  | tup h1 h2 => exact ⟨_, rfl, ⟨_, h1⟩, q1.now c1 (it_tup c1 h1 h2)⟩
  | _ => exact q1.elim
theorem i_rng1 {ta : TA} {a : MA} (ha : EvA K cls E ta a) : EvI K cls E (iRng1 ta) (wRng1 a) := fun μ H σ ρ h R c e q => by
  refine ha μ H σ ρ h _ c e (OkG.imp (OkG.bnd (rel := rlA K) q) ?_)
  rintro v H1 ⟨d, h1, μ1, e1, c1, r1, q1⟩
  cases r1 with
  | nil => exact q1.elim
  | cons r1 r2 =>
    cases r2 with
    | cons _ _ => cases r1 <;> exact q1.elim
    | nil =>
      cases r1 with
      | int j =>
        dsimp only at q1
        split at q1
        · next hz => exact ⟨j, rfl, hz.1, hz.2, q1.now c1 (it_rng 0 _)⟩
        · exact q1.elim
      | _ => exact q1.elim
theorem i_rng2 {ta : TA} {a : MA} (ha : EvA K cls E ta a) : EvI K cls E (iRng2 ta) (wRng2 a) := fun μ H σ ρ h R c e q => by
  refine ha μ H σ ρ h _ c e (OkG.imp (OkG.bnd (rel := rlA K) q) ?_)
  rintro v H1 ⟨d, h1, μ1, e1, c1, r1, q1⟩
  cases r1 with
  | nil => exact q1.elim
  | cons r1 r2 =>
    cases r2 with
    | nil => cases r1 <;> exact q1.elim
    | cons r2 r3 =>
      cases r3 with
      | cons _ _ => cases r1 <;> cases r2 <;> exact q1.elim
      | nil =>
        cases r1 with
        | int i =>
          cases r2 with
          | int j =>
            dsimp only at q1
            split at q1
            · next hz => exact ⟨i, j, rfl, hz, q1.now c1 (it_rng i _)⟩
            · exact q1.elim
          | _ => exact q1.elim
        | _ => cases r2 <;> exact q1.elim
end
end G

/-! Defs, their calls, the law's end. -/
namespace G
open PySem PySem.Spec PyProof.Rows L2
/-- a def's promise: its mirror -/
def spM (K : PySem.W.Frag) (cls : Nat → Addr) (f : List D → M D) (n : Nat) : Sp := fun vs H Q _ => vs.length = n ∧ ∃ (μ : List Addr) (h : Store) (ds : List D), Cfg K cls μ H h ∧ RepAll K H μ vs ds ∧ OkG K cls E0 (rlD K) μ H (f ds h) Q
section
variable {K : PySem.W.Frag} {cls : Nat → Addr} {E : XK}
theorem noexc_ok {α β : Type} {rel : Hp → List Addr → β → α → Prop} {μ : List Addr} {H : Hp} {h : Store} {m : M α} {Q : β → Hp → Prop} (q : OkG K cls E rel μ H (noexc m h) Q) : OkG K cls E0 rel μ H (m h) Q := by
  unfold noexc at q
  cases z : m h with
  | ok d h1 => rw [z] at q; exact q
  | exc c fs h1 => rw [z] at q; exact q.elim
  | stuck => rw [z] at q; exact q.elim
theorem e_own {f : List D → M D} {n : Nat} {ta : TA} {a : MA} (ha : EvA K cls E ta a) : EvE K cls E (tCall (spM K cls f n) [] E0 ta) (mCall n f a) := fun μ H σ ρ h Q c e q => by
  refine ha μ H σ ρ h _ c e (OkG.imp (OkG.bnd (rel := rlA K) q) ?_)
  rintro v H1 ⟨d, h1, μ1, e1, c1, r1, q1⟩
  split at q1
  · next hz =>
    show spM K cls f n (v ++ []) H1 Q E0
    rw [List.append_nil]
    exact ⟨(RepAll.length r1).trans hz, μ1, h1, d, c1, r1, noexc_ok q1⟩
  · exact q1.elim
/-- a def's body by its mirror -/
theorem fn_body {ts : TS} {m : MS} {N : List PySem.Str} {nn n : Nat} (hN : N.length = nn) (hm : EvS K cls E0 ts m) {vs : List V} {H : Hp} {Q : VK} (hs : spM K cls (mFn nn m) n vs H Q E) : ts { nx := fun _ H' => Q .non H', rt := Q } (start N vs) H := by
  obtain ⟨_, μ, h, ds, c, r, q⟩ := hs
  unfold mFn at q
  have e : EnvR K H μ (start N vs) (ds.map some ++ List.replicate (nn - ds.length) none) := by
    unfold L2.start
    rw [hN, RepAll.length r]
    exact EnvR.start _ r
  refine hm μ H _ _ h _ c e (OkG.imp (OkG.bnd (rel := rlF K) q) ?_)
  rintro v H1 ⟨d, h1, μ1, e1, c1, r1, q1⟩
  cases v with
  | nx σ1 =>
    cases d with
    | nx ρ1 => exact OkG.now (K := K) (cls := cls) (E := E0) (rel := rlD K) (v := V.non) (d := D.non) q1 c1 Rep.non
    | _ => exact r1.elim
  | rt v1 =>
    cases d with
    | rt d1 => exact OkG.now (K := K) (cls := cls) (E := E0) (rel := rlD K) (v := v1) (d := d1) q1 c1 r1
    | _ => exact r1.elim
  | bk σ1 =>
    cases d with
    | bk _ => exact q1.elim
    | _ => exact r1.elim
  | ct σ1 =>
    cases d with
    | ct _ => exact q1.elim
    | _ => exact r1.elim
/-- a def of the text, where its name leads -/
structure Df (K : PySem.W.Frag) (mg : PySem.Str → Option Value) (x : PySem.Str) (st : Stmt) : Prop where
  ex : ∃ (a : Addr) (fd : FuncData), Fun K x x st a fd ∧ mg x = some (.ref a)
/-- a def that keeps its mirror's promise -/
structure Fn (P : Program) (w : World) (K : PySem.W.Frag) (cls : Nat → Addr) (mg : PySem.Str → Option Value) (base : Heap) (x : PySem.Str) (k : Nat) (f : List D → M D) (n : Nat) : Prop where
  ex : ∃ (a : Addr) (fd : FuncData) (ps : List PySem.Str), FnOk P w K mg base CX0 k a fd ps (spM K cls f n) ∧ mg x = some (.ref a) ∧ PySem.W.keepIn K (.ref a) = true ∧ Binds K fd ps []
variable {P : Program} {w : World} {mg : PySem.Str → Option Value} {base : Heap}
theorem fun_ok {x : PySem.Str} {st : Stmt} {f : Addr} {fd : FuncData} {N ps : List PySem.Str} {nn n k : Nat} {m : MS} (F : Fun K x x st f fd) (S : FnScope N ps (defScope st)) (hN : N.length = nn) (hn : ps.length = n)
    (body : ∀ (cdv : Value) (A : Around) (outer : List PySem.Env) (s : Shared) (H : Hp) (E : XK), Room k (A.deeper (envOfC x (defScope st) s.heap.objs.size f cdv)) →
      ∃ t, PSs (cxOf CX0 P w K mg base N x (defScope st) f cdv A outer s H E).nox (defBody st) t ∧ EvS K cls E0 t m) : FnOk P w K mg base CX0 (k + 1) f fd ps (spM K cls (mFn nn m) n) := by
  refine F.ok S (fun vs H Q E h => h.1.trans hn.symm) (fun cdv A outer s H vs Q E hr h => ?_)
  obtain ⟨t, ht, hm⟩ := body cdv A outer s H E hr
  exact ⟨t, ht, fn_body hN hm h⟩
theorem df_ok {x : PySem.Str} {st : Stmt} {N ps : List PySem.Str} {nn n k : Nat} {m : MS} (F : Df K mg x st) (S : FnScope N ps (defScope st)) (hN : N.length = nn) (hn : ps.length = n)
    (hb : ∀ (kV doc pm : Value) (an : Option Addr) (cdv ct : Value) (us : List Value), us.length = ps.length → bindArgs (PySem.W.fnOf x x (defArgs st) (defBody st) (defScope st) .none kV doc pm an cdv ct) ⟨us, []⟩ = pure (ps.zip us))
    (body : ∀ (f : Addr) (cdv : Value) (A : Around) (outer : List PySem.Env) (s : Shared) (H : Hp) (E : XK), Room k (A.deeper (envOfC x (defScope st) s.heap.objs.size f cdv)) →
      ∃ t, PSs (cxOf CX0 P w K mg base N x (defScope st) f cdv A outer s H E).nox (defBody st) t ∧ EvS K cls E0 t m) : Fn P w K cls mg base x (k + 1) (mFn nn m) n := by
  obtain ⟨f, fd, F, g⟩ := F.ex
  exact ⟨f, fd, ps, fun_ok F S hN hn (body f), g, F.kp, F.binds hb⟩
/-- the law's own end -/
theorem law_sp {f : List D → M D} {H : Hp} {a : Addr} {ns : List Int} {h' : Store} (hO : Only H) (hS : SqL K H a (ns.map V.int)) (e : f [.fzl (ns.map D.int)] [] = .ok (.bl true) h') :
    spM K cls f 1 [.ref a] H (fun v _ => v = .bl true) E := by
  refine ⟨rfl, [], [], [.fzl (ns.map D.int)], ⟨rfl, List.nodup_nil, fun n o b h1 h2 => by simp at h1⟩, .cons (.fzl (xs := ns.map V.int) ?_ ?_) .nil, ?_⟩
  · rcases hS with (h | ⟨o, h⟩) | h
    · rcases hO a with z | ⟨o, xs, z⟩
      · rw [h] at z; cases z
      · rw [h] at z; cases z
    · exact .inl ⟨o, h⟩
    · exact .inr h
  · induction ns with
    | nil => exact .nil
    | cons n ns ih =>
      have : ∀ l : List Int, RepAll K H [] (l.map V.int) (l.map D.int) := by
        intro l
        induction l with
        | nil => exact .nil
        | cons x l ih => exact .cons (.int x) ih
      exact this _
  · rw [e]
    intro v μ' H' _ _ r
    cases r
    rfl
end
/-! what is walked: a list or a tuple -/
def wSeq (a : ME) : MI := fun ρ => bnd (a ρ) fun x => fun h => match x with
  | .tup l => .ok ⟨l, fun _ => true⟩ h
  | .fzl l => .ok ⟨l, fun _ => true⟩ h
  | .ref n => match getL h n with
    | some l => .ok ⟨l, fun h' => decide (getL h' n = some l)⟩ h
    | none => .stuck
  | _ => .stuck
def iSeq (K : PySem.W.Frag) (ta : TE) : TI := fun σ H R => iList K ta σ H R ∨ iTup K ta σ H R
theorem pi_seq {X : Cx} {tg l : Expr} {tl : TE} (hl : PE X l tl) : PI X tg l (iSeq X.K tl) := ⟨fun pins s σ H R I h => by
  rcases h with h | h
  · exact (pi_list hl).run pins s σ H R I h
  · exact (pi_tup hl).run pins s σ H R I h⟩
section
variable {K : PySem.W.Frag} {cls : Nat → Addr} {E : XK}
theorem i_seq {ta : TE} {a : ME} (ha : EvE K cls E ta a) : EvI K cls E (iSeq K ta) (wSeq a) := fun μ H σ ρ h R c e q => by
  have key : wSeq a ρ h = wList a ρ h ∨ wSeq a ρ h = wTup a ρ h := by
    unfold wSeq wList wTup bnd
    cases z : a ρ h with
    | stuck => exact .inl rfl
    | exc _ _ _ => exact .inl rfl
    | ok d h1 => cases d <;> first | exact .inl rfl | exact .inr rfl
  rcases key with k | k
  · exact .inl (i_list ha μ H σ ρ h R c e (by rw [← k]; exact q))
  · exact .inr (i_tup ha μ H σ ρ h R c e (by rw [← k]; exact q))
def fAddI (x y : D) : M D := match x, y with
  | .int i, .int j => ret (.int (i + j))
  | _, _ => stuck
theorem o_ipadd : OpE K cls E (ipI fun i j => i + j) fAddI := fun μ H h x y a b Q c r s q => by
  cases r with
  | int i =>
    cases s with
    | int j => exact ⟨i, j, rfl, rfl, q.now c (.int _)⟩
    | _ => exact q.elim
  | _ => cases s <;> exact q.elim
theorem o_ipsub : OpE K cls E (ipI fun i j => i - j) fSub := fun μ H h x y a b Q c r s q => by
  cases r with
  | int i =>
    cases s with
    | int j => exact ⟨i, j, rfl, rfl, q.now c (.int _)⟩
    | _ => exact q.elim
  | _ => cases s <;> exact q.elim
end
end G

/-! The plain side: what a mirror's run ends in (Wp), construct by construct. -/
namespace G
open PySem PySem.Spec PyProof.Rows L2
def Wq {α : Type} (r : Rs α) (Q : α → Store → Prop) : Prop := match r with
  | .ok a h => Q a h
  | _ => False
/-- the run ends well, in what is wished (sealed: nothing is to be computed by unfolding) -/
structure Wp {α : Type} (r : Rs α) (Q : α → Store → Prop) : Prop where
  is : Wq r Q
section
variable {α β : Type}
theorem w_ok {a : α} {h : Store} {Q : α → Store → Prop} : Wp (.ok a h) Q ↔ Q a h := ⟨fun z => z.is, fun z => ⟨z⟩⟩
theorem w_stk {Q : α → Store → Prop} : Wp (Rs.stuck) Q ↔ False := ⟨fun z => z.is, fun z => z.elim⟩
theorem w_exc {Q : α → Store → Prop} {c : Nat} {fs : Option (List (PySem.Str × D))} {h : Store} : Wp (.exc c fs h) Q ↔ False := ⟨fun z => z.is, fun z => z.elim⟩
theorem Wp.imp {r : Rs α} {Q Q' : α → Store → Prop} (h : Wp r Q) (f : ∀ a h, Q a h → Q' a h) : Wp r Q' := by
  cases r with
  | ok a h1 => exact w_ok.mpr (f _ _ (w_ok.mp h))
  | exc c fs h1 => exact (w_exc.mp h).elim
  | stuck => exact (w_stk.mp h).elim
theorem Wp.ex {r : Rs α} {Q : α → Store → Prop} (h : Wp r Q) : ∃ a h1, r = .ok a h1 ∧ Q a h1 := by
  cases r with
  | ok a h1 => exact ⟨a, h1, rfl, w_ok.mp h⟩
  | exc c fs h1 => exact (w_exc.mp h).elim
  | stuck => exact (w_stk.mp h).elim
theorem Wp.of {r : Rs α} {Q : α → Store → Prop} {a : α} {h1 : Store} (e : r = .ok a h1) (q : Q a h1) : Wp r Q := by
  rw [e]
  exact w_ok.mpr q
theorem Wp.iff {r : Rs α} {Q Q' : α → Store → Prop} (f : ∀ a h, Q a h ↔ Q' a h) : Wp r Q ↔ Wp r Q' := ⟨fun z => z.imp fun a h => (f a h).mp, fun z => z.imp fun a h => (f a h).mpr⟩
theorem w_bnd {m : M α} {f : α → M β} {h : Store} {Q : β → Store → Prop} : Wp (bnd m f h) Q ↔ Wp (m h) fun a h1 => Wp (f a h1) Q := by
  unfold bnd
  cases m h with
  | ok a h1 => exact (w_ok (Q := fun a h1 => Wp (f a h1) Q)).symm
  | exc c fs h1 => exact w_exc.trans w_exc.symm
  | stuck => exact w_stk.trans w_stk.symm
theorem w_ret {a : α} {h : Store} {Q : α → Store → Prop} : Wp (ret a h) Q ↔ Q a h := w_ok
theorem w_stuck {h : Store} {Q : α → Store → Prop} : Wp (stuck h) Q ↔ False := w_stk
theorem w_noexc {m : M α} {h : Store} {Q : α → Store → Prop} : Wp (noexc m h) Q ↔ Wp (m h) Q := by
  unfold noexc
  cases m h with
  | ok a h1 => first | exact Iff.rfl | exact w_ok | exact w_stk | exact w_exc | exact w_exc.trans w_exc.symm | exact w_ok.symm
  | exc c fs h1 => exact w_stk.trans w_exc.symm
  | stuck => first | exact Iff.rfl | exact w_ok | exact w_stk | exact w_exc | exact w_exc.trans w_exc.symm | exact w_ok.symm
end
section
variable {ρ : Env} {h : Store} {Q : D → Store → Prop} {QB : Bool → Store → Prop} {QA : List D → Store → Prop} {QF : Fl → Store → Prop} {QO : Option Int → Store → Prop} {a b o i e : ME} {t u : MT} {r : MA} {s s' : MS} {f : D → D → M D}
/-- what is there -/
def oQ {α : Type} (o : Option α) (k : α → Prop) : Prop := match o with
  | some a => k a
  | none => False
theorem oq_some {α : Type} {a : α} {k : α → Prop} : oQ (some a) k ↔ k a := by first | exact Iff.rfl | exact w_ok | exact w_stk | exact w_exc
theorem oq_iff {α : Type} {o : Option α} {k : α → Prop} : oQ o k ↔ ∃ a, o = some a ∧ k a := by
  cases o with
  | none => exact ⟨fun z => z.elim, fun ⟨_, z, _⟩ => by cases z⟩
  | some a => exact ⟨fun z => ⟨a, rfl, z⟩, fun ⟨_, z, w⟩ => by cases z; exact w⟩
/-- a slot's datum -/
def atS (ρ : Env) (i : Nat) (k : D → Prop) : Prop := match ρ[i]? with
  | some (some d) => k d
  | _ => False
theorem w_var {i : Nat} : Wp (mVar i ρ h) Q ↔ atS ρ i fun d => Q d h := by
  unfold mVar atS
  cases ρ[i]? with
  | none => first | exact Iff.rfl | exact w_ok | exact w_stk | exact w_exc | exact w_exc.trans w_exc.symm | exact w_ok.symm
  | some o => cases o <;> first | exact Iff.rfl | exact w_ok | exact w_stk | exact w_exc | exact w_exc.trans w_exc.symm | exact w_ok.symm
theorem s_z {d : D} {ρ : Env} {k : D → Prop} : atS (some d :: ρ) 0 k ↔ k d := by first | exact Iff.rfl | exact w_ok | exact w_stk | exact w_exc
theorem s_s {d : Option D} {ρ : Env} {n : Nat} {k : D → Prop} : atS (d :: ρ) (n + 1) k ↔ atS ρ n k := by
  unfold atS
  rw [List.getElem?_cons_succ]
theorem w_c {d : D} : Wp (mC d ρ h) Q ↔ Q d h := by first | exact Iff.rfl | exact w_ok | exact w_stk | exact w_exc
theorem w_op : Wp (mOp f a b ρ h) Q ↔ Wp (a ρ h) fun x h1 => Wp (b ρ h1) fun y h2 => Wp (f x y h2) Q := by
  unfold mOp
  simp only [w_bnd]
theorem w_un {f : D → M D} : Wp (mUn f a ρ h) Q ↔ Wp (a ρ h) fun x h1 => Wp (f x h1) Q := by
  unfold mUn
  simp only [w_bnd]
theorem w_nil : Wp (mNil ρ h) QA ↔ QA [] h := by first | exact Iff.rfl | exact w_ok | exact w_stk | exact w_exc
theorem w_cons : Wp (mCons a r ρ h) QA ↔ Wp (a ρ h) fun x h1 => Wp (r ρ h1) fun xs h2 => QA (x :: xs) h2 := by
  unfold mCons
  simp only [w_bnd, w_ret]
theorem w_cb {f : List D → M D} : Wp (mCB f r ρ h) Q ↔ Wp (r ρ h) fun xs h1 => Wp (f xs h1) Q := by
  unfold mCB
  simp only [w_bnd]
theorem w_call {n : Nat} {f : List D → M D} : Wp (mCall n f r ρ h) Q ↔ Wp (r ρ h) fun xs h1 => xs.length = n ∧ Wp (f xs h1) Q := by
  unfold mCall
  rw [w_bnd]
  have : ∀ xs h1, Wp ((if xs.length = n then noexc (f xs) else stuck) h1) Q ↔ (xs.length = n ∧ Wp (f xs h1) Q) := fun xs h1 => by
    by_cases e : xs.length = n
    · rw [if_pos e, w_noexc]; exact ⟨fun z => ⟨e, z⟩, fun z => z.2⟩
    · rw [if_neg e]; exact ⟨fun z => (w_stk.mp z).elim, fun z => (e z.1).elim⟩
  simp only [this]
theorem line2 {n : Nat} (h : n ≤ 1000) : n ≤ sizeLine := by rw [sizeLine_eq]; omega
theorem w_tup : Wp (mTup r ρ h) Q ↔ Wp (r ρ h) fun xs h1 => xs.length ≤ sizeLine ∧ Q (.tup xs) h1 := by
  unfold mTup
  rw [w_bnd]
  have : ∀ xs h1, Wp ((if xs.length ≤ sizeLine then ret (D.tup xs) else stuck) h1) Q ↔ (xs.length ≤ sizeLine ∧ Q (.tup xs) h1) := fun xs h1 => by
    by_cases e : xs.length ≤ sizeLine
    · rw [if_pos e]; first | exact ⟨fun z => ⟨e, w_ok.mp z⟩, fun z => w_ok.mpr z.2⟩ | exact ⟨fun z => ⟨e, z⟩, fun z => z.2⟩
    · rw [if_neg e]; exact ⟨fun z => (w_stk.mp z).elim, fun z => (e z.1).elim⟩
  simp only [this]
theorem w_alloc {o : O} : Wp (alloc o h) Q ↔ Q (.ref h.length) (h ++ [o]) := by first | exact Iff.rfl | exact w_ok | exact w_stk | exact w_exc
theorem w_lst : Wp (mLst r ρ h) Q ↔ Wp (r ρ h) fun xs h1 => xs.length ≤ sizeLine ∧ Q (.ref h1.length) (h1 ++ [.lst xs]) := by
  unfold mLst
  rw [w_bnd]
  have : ∀ xs h1, Wp ((if xs.length ≤ sizeLine then alloc (.lst xs) else stuck) h1) Q ↔ (xs.length ≤ sizeLine ∧ Q (.ref h1.length) (h1 ++ [.lst xs])) := fun xs h1 => by
    by_cases e : xs.length ≤ sizeLine
    · rw [if_pos e]; first | exact ⟨fun z => ⟨e, w_ok.mp z⟩, fun z => w_ok.mpr z.2⟩ | exact ⟨fun z => ⟨e, z⟩, fun z => z.2⟩
    · rw [if_neg e]; exact ⟨fun z => (w_stk.mp z).elim, fun z => (e z.1).elim⟩
  simp only [this]
/-- a bool's own -/
def asB (d : D) (k : Bool → Prop) : Prop := match d with
  | .bl b => k b
  | _ => False
theorem b_bl {b : Bool} {k : Bool → Prop} : asB (.bl b) k ↔ k b := by first | exact Iff.rfl | exact w_ok | exact w_stk | exact w_exc
theorem w_asBl {d : D} : Wp (asBl d h) QB ↔ asB d fun b => QB b h := by
  cases d <;> first | exact Iff.rfl | exact w_ok | exact w_stk | exact w_exc | exact w_exc.trans w_exc.symm | exact w_ok.symm
theorem w_test : Wp (mTest a ρ h) QB ↔ Wp (a ρ h) fun d h1 => asB d fun b => QB b h1 := by
  unfold mTest
  simp only [w_bnd, w_asBl]
theorem w_yes : Wp (mYes ρ h) QB ↔ QB true h := by first | exact Iff.rfl | exact w_ok | exact w_stk | exact w_exc
theorem ite_wp {α : Type} {c : Bool} {x y : M α} {h : Store} {Q : α → Store → Prop} : Wp ((if c = true then x else y) h) Q ↔ (if c = true then Wp (x h) Q else Wp (y h) Q) := by
  cases c <;> first | exact Iff.rfl | exact w_ok | exact w_stk | exact w_exc | exact w_exc.trans w_exc.symm | exact w_ok.symm
theorem w_and : Wp (mAnd t u ρ h) QB ↔ Wp (t ρ h) fun c h1 => if c = true then Wp (u ρ h1) QB else QB false h1 := by
  unfold mAnd
  simp only [w_bnd, ite_wp, w_ret]
theorem w_or : Wp (mOr t u ρ h) QB ↔ Wp (t ρ h) fun c h1 => if c = true then QB true h1 else Wp (u ρ h1) QB := by
  unfold mOr
  simp only [w_bnd, ite_wp, w_ret]
theorem w_not : Wp (mNot t ρ h) QB ↔ Wp (t ρ h) fun c h1 => QB (!c) h1 := by
  unfold mNot
  simp only [w_bnd, w_ret]
theorem w_andV : Wp (mAndV a b ρ h) Q ↔ Wp (a ρ h) fun x h1 => asB x fun c => if c = true then Wp (b ρ h1) Q else Q (.bl false) h1 := by
  unfold mAndV
  simp only [w_bnd, ite_wp, w_ret, w_asBl]
theorem w_orV : Wp (mOrV a b ρ h) Q ↔ Wp (a ρ h) fun x h1 => asB x fun c => if c = true then Q (.bl true) h1 else Wp (b ρ h1) Q := by
  unfold mOrV
  simp only [w_bnd, ite_wp, w_ret, w_asBl]
theorem w_notV : Wp (mNotV a ρ h) Q ↔ Wp (a ρ h) fun x h1 => asB x fun c => Q (.bl (!c)) h1 := by
  unfold mNotV
  simp only [w_bnd, w_ret, w_asBl]
theorem w_ifx : Wp (mIf t a b ρ h) Q ↔ Wp (t ρ h) fun c h1 => if c = true then Wp (a ρ h1) Q else Wp (b ρ h1) Q := by
  unfold mIf
  simp only [w_bnd, ite_wp]
theorem w_nop : Wp (mNoPart ρ h) QO ↔ QO none h := by first | exact Iff.rfl | exact w_ok | exact w_stk | exact w_exc
def asI (d : D) (k : Int → Prop) : Prop := match d with
  | .int b => k b
  | _ => False
theorem i_int {b : Int} {k : Int → Prop} : asI (.int b) k ↔ k b := by first | exact Iff.rfl | exact w_ok | exact w_stk | exact w_exc
theorem w_part : Wp (mPart a ρ h) QO ↔ Wp (a ρ h) fun x h1 => asI x fun i => QO (some i) h1 := by
  unfold mPart
  rw [w_bnd]
  exact Wp.iff fun x h1 => by cases x <;> first | exact Iff.rfl | exact w_ok | exact w_stk | exact w_exc | exact w_exc.trans w_exc.symm | exact w_ok.symm
theorem w_sl {f : D → Option Int → Option Int → M D} {l u : MO} : Wp (mSl f a l u ρ h) Q ↔ Wp (a ρ h) fun x h1 => Wp (l ρ h1) fun i h2 => Wp (u ρ h2) fun j h3 => Wp (f x i j h3) Q := by
  unfold mSl
  simp only [w_bnd]
/-! statements -/
theorem w_next : Wp (mNext ρ h) QF ↔ QF (.nx ρ) h := by first | exact Iff.rfl | exact w_ok | exact w_stk | exact w_exc
theorem w_rt : Wp (mRet a ρ h) QF ↔ Wp (a ρ h) fun d h1 => QF (.rt d) h1 := by
  unfold mRet
  simp only [w_bnd, w_ret]
theorem w_rtN : Wp (mRetN ρ h) QF ↔ QF (.rt .non) h := by first | exact Iff.rfl | exact w_ok | exact w_stk | exact w_exc
theorem w_brk : Wp (mBrk ρ h) QF ↔ QF (.bk ρ) h := by first | exact Iff.rfl | exact w_ok | exact w_stk | exact w_exc
theorem w_cont : Wp (mCont ρ h) QF ↔ QF (.ct ρ) h := by first | exact Iff.rfl | exact w_ok | exact w_stk | exact w_exc
theorem w_drop : Wp (mDrop a ρ h) QF ↔ Wp (a ρ h) fun _ h1 => QF (.nx ρ) h1 := by
  unfold mDrop
  simp only [w_bnd, w_ret]
/-- what follows a statement -/
def seqQ (u : MS) (QF : Fl → Store → Prop) (f : Fl) (h : Store) : Prop := match f with
  | .nx ρ => Wp (u ρ h) QF
  | f => QF f h
theorem q_nx {u : MS} : seqQ u QF (.nx ρ) h ↔ Wp (u ρ h) QF := by first | exact Iff.rfl | exact w_ok | exact w_stk | exact w_exc
theorem q_rt {u : MS} {d : D} : seqQ u QF (.rt d) h ↔ QF (.rt d) h := by first | exact Iff.rfl | exact w_ok | exact w_stk | exact w_exc
theorem q_bk {u : MS} : seqQ u QF (.bk ρ) h ↔ QF (.bk ρ) h := by first | exact Iff.rfl | exact w_ok | exact w_stk | exact w_exc
theorem q_ct {u : MS} : seqQ u QF (.ct ρ) h ↔ QF (.ct ρ) h := by first | exact Iff.rfl | exact w_ok | exact w_stk | exact w_exc
theorem w_seq : Wp (mSeq s s' ρ h) QF ↔ Wp (s ρ h) (seqQ s' QF) := by
  unfold mSeq
  rw [w_bnd]
  have : ∀ f h1, Wp (thenF f s' h1) QF ↔ seqQ s' QF f h1 := fun f h1 => by cases f <;> first | exact Iff.rfl | exact w_ok | exact w_stk | exact w_exc | exact w_exc.trans w_exc.symm | exact w_ok.symm
  simp only [this]
theorem w_ifS : Wp (mIfS t s s' ρ h) QF ↔ Wp (t ρ h) fun c h1 => if c = true then Wp (s ρ h1) QF else Wp (s' ρ h1) QF := by
  unfold mIfS
  simp only [w_bnd, ite_wp]
theorem w_set {i : Nat} : Wp (mSet i a ρ h) QF ↔ Wp (a ρ h) fun d h1 => QF (.nx (ρ.set i (some d))) h1 := by
  unfold mSet
  simp only [w_bnd, w_ret]
def goQ (o : Option Env) (k : Env → Prop) : Prop := match o with
  | some ρ => k ρ
  | none => False
theorem g_some {k : Env → Prop} : goQ (some ρ) k ↔ k ρ := by first | exact Iff.rfl | exact w_ok | exact w_stk | exact w_exc
theorem w_asg {g : MG} : Wp (mAsg g a ρ h) QF ↔ Wp (a ρ h) fun d h1 => goQ (g d ρ) fun ρ' => QF (.nx ρ') h1 := by
  unfold mAsg
  rw [w_bnd]
  have : ∀ d h1, Wp (goF (g d ρ) (fun ρ' => ret (.nx ρ')) h1) QF ↔ goQ (g d ρ) fun ρ' => QF (.nx ρ') h1 := fun d h1 => by cases g d ρ <;> first | exact Iff.rfl | exact w_ok | exact w_stk | exact w_exc | exact w_exc.trans w_exc.symm | exact w_ok.symm
  simp only [this]
theorem w_setIx : Wp (mSetIx o i a ρ h) QF ↔ Wp (a ρ h) fun v h1 => Wp (o ρ h1) fun x h2 => Wp (i ρ h2) fun k h3 => Wp (setItem x k v h3) fun _ h4 => QF (.nx ρ) h4 := by
  unfold mSetIx
  simp only [w_bnd, w_ret]
theorem w_aug {i : Nat} : Wp (mAug i f a ρ h) QF ↔ atS ρ i fun x => Wp (a ρ h) fun y h1 => Wp (f x y h1) fun z h2 => QF (.nx (ρ.set i (some z))) h2 := by
  unfold mAug atS
  cases ρ[i]? with
  | none => first | exact Iff.rfl | exact w_ok | exact w_stk | exact w_exc | exact w_exc.trans w_exc.symm | exact w_ok.symm
  | some o =>
    cases o with
    | none => first | exact Iff.rfl | exact w_ok | exact w_stk | exact w_exc | exact w_exc.trans w_exc.symm | exact w_ok.symm
    | some x => simp only [w_bnd, w_ret]
def endQ (Q : D → Store → Prop) (f : Fl) (h : Store) : Prop := match f with
  | .rt d => Q d h
  | .nx _ => Q .non h
  | _ => False
theorem n_rt {d : D} : endQ Q (.rt d) h ↔ Q d h := by first | exact Iff.rfl | exact w_ok | exact w_stk | exact w_exc
theorem n_nx : endQ Q (.nx ρ) h ↔ Q .non h := by first | exact Iff.rfl | exact w_ok | exact w_stk | exact w_exc
theorem w_fn {N : Nat} {ds : List D} : Wp (mFn N s ds h) Q ↔ Wp (s (ds.map some ++ List.replicate (N - ds.length) none) h) (endQ Q) := by
  unfold mFn
  rw [w_bnd]
  have : ∀ f h1, Wp (endF f h1) Q ↔ endQ Q f h1 := fun f h1 => by cases f <;> first | exact Iff.rfl | exact w_ok | exact w_stk | exact w_exc | exact w_exc.trans w_exc.symm | exact w_ok.symm
  simp only [this]
theorem w_for {w : MI} {g : MG} : Wp (mFor w g s ρ h) QF ↔ Wp (w ρ h) fun k h1 => Wp (forGo k.lv g s k.ds ρ h1) QF := by
  unfold mFor
  simp only [w_bnd]
theorem w_for0 {lv : Store → Bool} {g : MG} : Wp (forGo lv g s [] ρ h) QF ↔ lv h = true ∧ QF (.nx ρ) h := by
  unfold forGo
  by_cases e : lv h = true
  · rw [if_pos e]; first | exact ⟨fun z => ⟨e, w_ok.mp z⟩, fun z => w_ok.mpr z.2⟩ | exact ⟨fun z => ⟨e, z⟩, fun z => z.2⟩
  · rw [if_neg e]; exact ⟨fun z => (w_stk.mp z).elim, fun z => (e z.1).elim⟩
/-- behind a turn -/
def turnQ (lv : Store → Bool) (g : MG) (s : MS) (ds : List D) (QF : Fl → Store → Prop) (f : Fl) (h : Store) : Prop := match f with
  | .nx ρ => Wp (forGo lv g s ds ρ h) QF
  | .ct ρ => Wp (forGo lv g s ds ρ h) QF
  | .bk ρ => QF (.nx ρ) h
  | .rt d => QF (.rt d) h
theorem w_for1 {lv : Store → Bool} {g : MG} {d : D} {ds : List D} : Wp (forGo lv g s (d :: ds) ρ h) QF ↔ lv h = true ∧ goQ (g d ρ) fun ρ1 => Wp (s ρ1 h) (turnQ lv g s ds QF) := by
  unfold forGo
  by_cases e : lv h = true
  · rw [if_pos e]
    have : Wp (match g d ρ with
      | none => Rs.stuck
      | some ρ1 => match s ρ1 h with
        | .ok (.nx ρ2) h2 => forGo lv g s ds ρ2 h2
        | .ok (.ct ρ2) h2 => forGo lv g s ds ρ2 h2
        | .ok (.bk ρ2) h2 => .ok (.nx ρ2) h2
        | .ok (.rt d) h2 => .ok (.rt d) h2
        | .exc c fs h2 => .exc c fs h2
        | .stuck => .stuck) QF ↔ goQ (g d ρ) fun ρ1 => Wp (s ρ1 h) (turnQ lv g s ds QF) := by
      cases g d ρ with
      | none => first | exact Iff.rfl | exact w_ok | exact w_stk | exact w_exc | exact w_exc.trans w_exc.symm | exact w_ok.symm
      | some ρ1 =>
        dsimp only [goQ]
        cases s ρ1 h with
        | ok f h2 =>
          refine Iff.trans ?_ (w_ok (Q := turnQ lv g s ds QF)).symm
          cases f <;> first | exact Iff.rfl | exact w_ok
        | exc c fs h2 => first | exact Iff.rfl | exact w_ok | exact w_stk | exact w_exc | exact w_exc.trans w_exc.symm | exact w_ok.symm
        | stuck => exact w_stk.trans w_stk.symm
    exact ⟨fun z => ⟨e, this.mp z⟩, fun z => this.mpr z.2⟩
  · rw [if_neg e]; exact ⟨fun z => (w_stk.mp z).elim, fun z => (e z.1).elim⟩
/-- a loop by what holds between its turns -/
theorem for_inv {lv : Store → Bool} {g : MG} {ds : List D} (I : Nat → Env → Store → Prop) (h0 : I 0 ρ h) (hl : ∀ k ρ h, k ≤ ds.length → I k ρ h → lv h = true)
    (hs : ∀ (k : Nat) (d : D) ρ h, ds[k]? = some d → I k ρ h → goQ (g d ρ) fun ρ1 => Wp (s ρ1 h) fun f h1 => match f with
      | .nx ρ => I (k + 1) ρ h1
      | .ct ρ => I (k + 1) ρ h1
      | .bk ρ => QF (.nx ρ) h1
      | .rt d => QF (.rt d) h1)
    (hd : ∀ ρ h, I ds.length ρ h → QF (.nx ρ) h) : Wp (forGo lv g s ds ρ h) QF := by
  have key : ∀ (n k : Nat) ρ h, n + k = ds.length → I k ρ h → Wp (forGo lv g s (ds.drop k) ρ h) QF := by
    intro n
    induction n with
    | zero =>
      intro k ρ h e i
      have : ds.drop k = [] := List.drop_eq_nil_iff.mpr (by omega)
      rw [this, w_for0]
      have e : k = ds.length := by omega
      subst e
      exact ⟨hl _ _ _ (Nat.le_refl _) i, hd _ _ i⟩
    | succ n ih =>
      intro k ρ h e i
      have hk : k < ds.length := by omega
      rw [List.drop_eq_getElem_cons hk, w_for1]
      refine ⟨hl _ _ _ (Nat.le_of_lt hk) i, ?_⟩
      have q := hs k ds[k] ρ h (List.getElem?_eq_getElem hk) i
      cases z : g ds[k] ρ with
      | none => rw [z] at q; exact q.elim
      | some ρ1 =>
        rw [z] at q
        refine Wp.imp q fun f h1 q1 => ?_
        cases f with
        | nx ρ2 => exact ih (k + 1) ρ2 h1 (by omega) q1
        | ct ρ2 => exact ih (k + 1) ρ2 h1 (by omega) q1
        | bk ρ2 => exact q1
        | rt d => exact q1
  exact key ds.length 0 ρ h (by omega) h0
/-! what is walked -/
def wkQ (QW : Wk → Store → Prop) (x : D) (h : Store) : Prop := match x with
  | .tup l => QW ⟨l, fun _ => true⟩ h
  | .fzl l => QW ⟨l, fun _ => true⟩ h
  | .ref n => oQ (getL h n) fun l => QW ⟨l, fun h' => decide (getL h' n = some l)⟩ h
  | _ => False
theorem w_wseq {QW : Wk → Store → Prop} : Wp (wSeq a ρ h) QW ↔ Wp (a ρ h) (wkQ QW) := by
  unfold wSeq
  rw [w_bnd]
  exact Wp.iff fun x h1 => by
    cases x with
    | ref n =>
      dsimp only [wkQ]
      cases getL h1 n with
      | none => first | exact Iff.rfl | exact w_ok | exact w_stk | exact w_exc | exact w_exc.trans w_exc.symm | exact w_ok.symm
      | some l => first | exact Iff.rfl | exact w_ok | exact w_stk | exact w_exc | exact w_exc.trans w_exc.symm | exact w_ok.symm
    | _ => first | exact Iff.rfl | exact w_ok | exact w_stk | exact w_exc | exact w_exc.trans w_exc.symm | exact w_ok.symm
theorem k_tup {QW : Wk → Store → Prop} {l : List D} : wkQ QW (.tup l) h ↔ QW ⟨l, fun _ => true⟩ h := by first | exact Iff.rfl | exact w_ok | exact w_stk | exact w_exc
theorem k_fzl {QW : Wk → Store → Prop} {l : List D} : wkQ QW (.fzl l) h ↔ QW ⟨l, fun _ => true⟩ h := by first | exact Iff.rfl | exact w_ok | exact w_stk | exact w_exc
theorem k_ref {QW : Wk → Store → Prop} {n : Nat} : wkQ QW (.ref n) h ↔ oQ (getL h n) fun l => QW ⟨l, fun h' => decide (getL h' n = some l)⟩ h := by first | exact Iff.rfl | exact w_ok | exact w_stk | exact w_exc
theorem w_wr1 {QW : Wk → Store → Prop} : Wp (wRng1 r ρ h) QW ↔ Wp (r ρ h) fun vs h1 => ∃ j, vs = [D.int j] ∧ -(2 ^ 62) ≤ j ∧ j < 2 ^ 62 ∧ QW ⟨rng 0 j.toNat, fun _ => true⟩ h1 := by
  unfold wRng1
  rw [w_bnd]
  exact Wp.iff fun vs h1 => by
    split
    · next j =>
      by_cases e : -(2 ^ 62) ≤ j ∧ j < 2 ^ 62
      · rw [if_pos e]; exact ⟨fun z => ⟨j, rfl, e.1, e.2, w_ok.mp z⟩, fun ⟨_, z, _, _, w⟩ => by cases z; exact w_ok.mpr w⟩
      · rw [if_neg e]; exact ⟨fun z => (w_stk.mp z).elim, fun ⟨_, z, p, q, w⟩ => by cases z; exact (e ⟨p, q⟩).elim⟩
    · next hn => exact ⟨fun z => (w_stk.mp z).elim, fun ⟨j, z, _⟩ => absurd z (hn j)⟩
theorem w_wr2 {QW : Wk → Store → Prop} : Wp (wRng2 r ρ h) QW ↔ Wp (r ρ h) fun vs h1 => ∃ i j, vs = [D.int i, D.int j] ∧ (-(2 ^ 62) ≤ i ∧ i < 2 ^ 62 ∧ -(2 ^ 62) ≤ j ∧ j < 2 ^ 62) ∧ QW ⟨rng i (j - i).toNat, fun _ => true⟩ h1 := by
  unfold wRng2
  rw [w_bnd]
  exact Wp.iff fun vs h1 => by
    split
    · next i j =>
      by_cases e : -(2 ^ 62) ≤ i ∧ i < 2 ^ 62 ∧ -(2 ^ 62) ≤ j ∧ j < 2 ^ 62
      · rw [if_pos e]; exact ⟨fun z => ⟨i, j, rfl, e, w_ok.mp z⟩, fun ⟨_, _, z, _, w⟩ => by cases z; exact w_ok.mpr w⟩
      · rw [if_neg e]; exact ⟨fun z => (w_stk.mp z).elim, fun ⟨_, _, z, p, w⟩ => by cases z; exact (e p).elim⟩
    · next hn => exact ⟨fun z => (w_stk.mp z).elim, fun ⟨i, j, z, _⟩ => absurd z (hn i j)⟩
theorem rng_get {lo : Int} {n k : Nat} {d : D} (e : (rng lo n)[k]? = some d) : k < n ∧ d = .int (lo + (k : Int)) := by
  unfold rng at e
  rw [List.getElem?_map] at e
  obtain ⟨m, hm, rfl⟩ := Option.map_eq_some_iff.mp e
  obtain ⟨hi, hk⟩ := List.getElem?_eq_some_iff.mp hm
  rw [List.getElem_range] at hk
  subst hk
  rw [List.length_range] at hi
  exact ⟨hi, rfl⟩
theorem rng_len {lo : Int} {n : Nat} : (rng lo n).length = n := by simp [rng]
/-! operators on ints -/
theorem f_add {i j : Int} : Wp (fAdd (.int i) (.int j) h) Q ↔ Q (.int (i + j)) h := by first | exact Iff.rfl | exact w_ok | exact w_stk | exact w_exc
theorem f_sub {i j : Int} : Wp (fSub (.int i) (.int j) h) Q ↔ Q (.int (i - j)) h := by first | exact Iff.rfl | exact w_ok | exact w_stk | exact w_exc
theorem f_addI {i j : Int} : Wp (fAddI (.int i) (.int j) h) Q ↔ Q (.int (i + j)) h := by first | exact Iff.rfl | exact w_ok | exact w_stk | exact w_exc
theorem f_mul {i j : Int} : Wp (fMul (.int i) (.int j) h) Q ↔ mulOk i j = true ∧ Q (.int (i * j)) h := by
  unfold fMul
  dsimp only
  by_cases e : mulOk i j = true
  · rw [if_pos e]; first | exact ⟨fun z => ⟨e, w_ok.mp z⟩, fun z => w_ok.mpr z.2⟩ | exact ⟨fun z => ⟨e, z⟩, fun z => z.2⟩
  · rw [if_neg e]; exact ⟨fun z => (w_stk.mp z).elim, fun z => (e z.1).elim⟩
theorem f_div {i j : Int} : Wp (fDiv (.int i) (.int j) h) Q ↔ (j ≠ 0 ∧ j.natAbs.log2 < 9000) ∧ Q (.int (i.fdiv j)) h := by
  unfold fDiv
  dsimp only
  by_cases e : j ≠ 0 ∧ j.natAbs.log2 < 9000
  · rw [if_pos e]; first | exact ⟨fun z => ⟨e, w_ok.mp z⟩, fun z => w_ok.mpr z.2⟩ | exact ⟨fun z => ⟨e, z⟩, fun z => z.2⟩
  · rw [if_neg e]; exact ⟨fun z => (w_stk.mp z).elim, fun z => (e z.1).elim⟩
theorem f_mod {i j : Int} : Wp (fMod (.int i) (.int j) h) Q ↔ j ≠ 0 ∧ Q (.int (i.fmod j)) h := by
  unfold fMod
  dsimp only
  by_cases e : j ≠ 0
  · rw [if_pos e]; first | exact ⟨fun z => ⟨e, w_ok.mp z⟩, fun z => w_ok.mpr z.2⟩ | exact ⟨fun z => ⟨e, z⟩, fun z => z.2⟩
  · rw [if_neg e]; exact ⟨fun z => (w_stk.mp z).elim, fun z => (e z.1).elim⟩
theorem f_pow {i j : Int} : Wp (fPow (.int i) (.int j) h) Q ↔ (0 ≤ j ∧ j ≤ 1000000 ∧ i.natAbs < 2 ^ 64) ∧ Q (.int (i ^ j.toNat)) h := by
  unfold fPow
  dsimp only
  by_cases e : 0 ≤ j ∧ j ≤ 1000000 ∧ i.natAbs < 2 ^ 64
  · rw [if_pos e]; exact ⟨fun z => ⟨e, w_ok.mp z⟩, fun z => w_ok.mpr z.2⟩
  · rw [if_neg e]; exact ⟨fun z => (w_stk.mp z).elim, fun z => (e z.1).elim⟩
theorem f_neg {i : Int} : Wp (fNeg (.int i) h) Q ↔ Q (.int (-i)) h := by first | exact Iff.rfl | exact w_ok | exact w_stk | exact w_exc
theorem f_cmp {p : Int → Int → Bool} {i j : Int} : Wp (fCmp p (.int i) (.int j) h) Q ↔ Q (.bl (p i j)) h := by first | exact Iff.rfl | exact w_ok | exact w_stk | exact w_exc
theorem f_isB {a b : Bool} : Wp (fIsB false (.bl a) (.bl b) h) Q ↔ Q (.bl (decide (a = b))) h := by first | exact Iff.rfl | exact w_ok | exact w_stk | exact w_exc
theorem f_notB {a b : Bool} : Wp (fIsB true (.bl a) (.bl b) h) Q ↔ Q (.bl (!decide (a = b))) h := by first | exact Iff.rfl | exact w_ok | exact w_stk | exact w_exc
theorem f_isN {x : D} : Wp (fIsN false x .non h) Q ↔ Q (.bl (isNon x)) h := by first | exact Iff.rfl | exact w_ok | exact w_stk | exact w_exc
theorem f_notN {x : D} : Wp (fIsN true x .non h) Q ↔ Q (.bl (!isNon x)) h := by first | exact Iff.rfl | exact w_ok | exact w_stk | exact w_exc
theorem n_non : isNon .non = true := rfl
theorem n_int {i : Int} : isNon (.int i) = false := rfl
theorem n_bl {i : Bool} : isNon (.bl i) = false := rfl
theorem n_ref {i : Nat} : isNon (.ref i) = false := rfl
theorem n_tup {i : List D} : isNon (.tup i) = false := rfl
theorem toPy_int {n : Nat} {i : Int} : toPy h n (.int i) = some (.int i) := by cases n <;> (unfold toPy; rfl)
theorem f_eq {i j : Int} : Wp (fEq false (.int i) (.int j) h) Q ↔ Q (.bl (decide (i = j))) h := by
  unfold fEq
  rw [toPy_int, toPy_int]
  first | exact Iff.rfl | exact w_ok | exact w_stk | exact w_exc | exact w_exc.trans w_exc.symm | exact w_ok.symm
theorem f_ne {i j : Int} : Wp (fEq true (.int i) (.int j) h) Q ↔ Q (.bl (!decide (i = j))) h := by
  unfold fEq
  rw [toPy_int, toPy_int]
  first | exact Iff.rfl | exact w_ok | exact w_stk | exact w_exc | exact w_exc.trans w_exc.symm | exact w_ok.symm
theorem f_abs {i : Int} : Wp (fAbs [.int i] h) Q ↔ Q (.int (if i < 0 then -i else i)) h := by first | exact Iff.rfl | exact w_ok | exact w_stk | exact w_exc
theorem f_int {i : Int} : Wp (fInt [.int i] h) Q ↔ Q (.int i) h := by first | exact Iff.rfl | exact w_ok | exact w_stk | exact w_exc
theorem f_intB {k : Bool} : Wp (fInt [.bl k] h) Q ↔ Q (.int (if k then 1 else 0)) h := by first | exact Iff.rfl | exact w_ok | exact w_stk | exact w_exc
theorem f_max2 {i j : Int} : Wp (fMax2 [.int i, .int j] h) Q ↔ Q (.int (if j > i then j else i)) h := by first | exact Iff.rfl | exact w_ok | exact w_stk | exact w_exc
theorem f_min2 {i j : Int} : Wp (fMin2 [.int i, .int j] h) Q ↔ Q (.int (if j < i then j else i)) h := by first | exact Iff.rfl | exact w_ok | exact w_stk | exact w_exc
theorem f_gcd {i j : Int} : Wp (fGcd [.int i, .int j] h) Q ↔ Q (.int ((Nat.gcd i.natAbs j.natAbs : Nat) : Int)) h := by first | exact Iff.rfl | exact w_ok | exact w_stk | exact w_exc
/-! items -/
theorem it_tupD {l : List D} : items h (.tup l) = some l := rfl
theorem it_fzlD {l : List D} : items h (.fzl l) = some l := rfl
theorem it_refD {n : Nat} : items h (.ref n) = getL h n := rfl
theorem f_ix {x : D} {i : Int} : Wp (fIx x (.int i) h) Q ↔ oQ (items h x) fun l => oQ (atI l i) fun d => Q d h := by
  unfold fIx
  cases items h x with
  | none => first | exact Iff.rfl | exact w_ok | exact w_stk | exact w_exc | exact w_exc.trans w_exc.symm | exact w_ok.symm
  | some l =>
    dsimp only [oQ]
    cases e : atI l i <;> first | exact Iff.rfl | exact w_ok | exact w_stk | exact w_exc | exact w_exc.trans w_exc.symm | exact w_ok.symm
theorem f_len {x : D} : Wp (fLen [x] h) Q ↔ oQ (items h x) fun l => Q (.int (l.length : Int)) h := by
  unfold fLen
  dsimp only
  cases items h x <;> first | exact Iff.rfl | exact w_ok | exact w_stk | exact w_exc | exact w_exc.trans w_exc.symm | exact w_ok.symm
theorem f_list {x : D} : Wp (fList [x] h) Q ↔ oQ (items h x) fun l => Q (.ref h.length) (h ++ [.lst l]) := by
  unfold fList
  dsimp only
  cases items h x <;> first | exact Iff.rfl | exact w_ok | exact w_stk | exact w_exc | exact w_exc.trans w_exc.symm | exact w_ok.symm
theorem f_setItem {n : Nat} {k : Int} {v : D} {QU : Unit → Store → Prop} : Wp (setItem (.ref n) (.int k) v h) QU ↔ oQ (getL h n) fun xs => oQ (ixN xs.length k) fun j => QU () (h.set n (.lst (xs.set j v))) := by
  unfold setItem
  dsimp only
  cases getL h n with
  | none => first | exact Iff.rfl | exact w_ok | exact w_stk | exact w_exc | exact w_exc.trans w_exc.symm | exact w_ok.symm
  | some xs =>
    dsimp only [oQ]
    cases e : ixN xs.length k <;> first | exact Iff.rfl | exact w_ok | exact w_stk | exact w_exc | exact w_exc.trans w_exc.symm | exact w_ok.symm
theorem f_slF {l : List D} {lo hi : Option Int} : Wp (fSl (.fzl l) lo hi h) Q ↔ Q (.ref h.length) (h ++ [.lst (cutD l lo hi)]) := by first | exact Iff.rfl | exact w_ok | exact w_stk | exact w_exc
theorem f_slR {n : Nat} {lo hi : Option Int} : Wp (fSl (.ref n) lo hi h) Q ↔ oQ (getL h n) fun l => Q (.ref h.length) (h ++ [.lst (cutD l lo hi)]) := by
  unfold fSl
  dsimp only
  cases getL h n <;> first | exact Iff.rfl | exact w_ok | exact w_stk | exact w_exc | exact w_exc.trans w_exc.symm | exact w_ok.symm
theorem f_isi {x : D} {b : String} : Wp (fIsi [x, .ty b] h) Q ↔ oQ (tyName h x) fun a => oQ (kitB a b) fun k => Q (.bl k) h := by
  unfold fIsi
  dsimp only
  cases tyName h x with
  | none => first | exact Iff.rfl | exact w_ok | exact w_stk | exact w_exc | exact w_exc.trans w_exc.symm | exact w_ok.symm
  | some a =>
    dsimp only [oQ]
    cases e : kitB a b <;> first | exact Iff.rfl | exact w_ok | exact w_stk | exact w_exc | exact w_exc.trans w_exc.symm | exact w_ok.symm
theorem f_app {n : Nat} {y : D} : Wp (fAppend (.ref n) [y] h) Q ↔ oQ (getL h n) fun xs => xs.length < sizeLine ∧ Q .non (h.set n (.lst (xs ++ [y]))) := by
  unfold fAppend
  dsimp only
  cases getL h n with
  | none => first | exact Iff.rfl | exact w_ok | exact w_stk | exact w_exc | exact w_exc.trans w_exc.symm | exact w_ok.symm
  | some xs =>
    dsimp only [oQ]
    by_cases e : xs.length < sizeLine
    · rw [if_pos e]; first | exact ⟨fun z => ⟨e, w_ok.mp z⟩, fun z => w_ok.mpr z.2⟩ | exact ⟨fun z => ⟨e, z⟩, fun z => z.2⟩
    · rw [if_neg e]; exact ⟨fun z => (w_stk.mp z).elim, fun z => (e z.1).elim⟩
theorem w_bm {f : D → List D → M D} : Wp (mBM f o r ρ h) Q ↔ Wp (o ρ h) fun x h1 => match x with
    | .ref n => oQ (getL h1 n) fun _ => Wp (r ρ h1) fun vs h2 => Wp (f x vs h2) Q
    | _ => False := by
  unfold mBM
  rw [w_bnd]
  refine Wp.iff fun x h1 => ?_
  cases x with
  | ref n =>
    dsimp only
    cases getL h1 n with
    | none => first | exact Iff.rfl | exact w_ok | exact w_stk | exact w_exc | exact w_exc.trans w_exc.symm | exact w_ok.symm
    | some l => exact w_bnd
  | _ => first | exact Iff.rfl | exact w_ok | exact w_stk | exact w_exc | exact w_exc.trans w_exc.symm | exact w_ok.symm
/-! the store -/
theorem getL_set {n : Nat} {xs ys : List D} (e : getL h n = some xs) : getL (h.set n (.lst ys)) n = some ys := by
  have hl : n < h.length := by
    obtain ⟨q, _⟩ := List.getElem?_eq_some_iff.mp (getL_some e)
    exact q
  unfold getL
  rw [List.getElem?_set_self hl]
theorem getL_ne {n m : Nat} {o : O} (e : m ≠ n) : getL (h.set n o) m = getL h m := by
  unfold getL
  rw [List.getElem?_set_ne (Ne.symm e)]
theorem getL_lt {n : Nat} {xs : List D} (e : getL h n = some xs) : n < h.length := by
  obtain ⟨q, _⟩ := List.getElem?_eq_some_iff.mp (getL_some e)
  exact q
theorem getL_old {n : Nat} {l : Store} (e : n < h.length) : getL (h ++ l) n = getL h n := by
  unfold getL
  rw [List.getElem?_append_left e]
theorem getL_new {xs : List D} : getL (h ++ [.lst xs]) h.length = some xs := by
  unfold getL
  rw [List.getElem?_append_right (Nat.le_refl _), Nat.sub_self]
  rfl
theorem ty_non : tyName h .non = some "NoneType" := rfl
theorem ty_bl {b : Bool} : tyName h (.bl b) = some "bool" := rfl
theorem ty_int {b : Int} : tyName h (.int b) = some "int" := rfl
theorem ty_str {b : PySem.Str} : tyName h (.str b) = some "str" := rfl
theorem ty_tup {b : List D} : tyName h (.tup b) = some "tuple" := rfl
theorem ty_fzl {b : List D} : tyName h (.fzl b) = some "list" := rfl
theorem ty_ref {n : Nat} {xs : List D} (e : getL h n = some xs) : tyName h (.ref n) = some "list" := by
  unfold tyName
  dsimp only
  rw [getL_some e]
theorem kb_ii : kitB "int" "int" = some true := by decide +kernel
theorem kb_ib : kitB "int" "bool" = some false := by decide +kernel
theorem kb_bi : kitB "bool" "int" = some true := by decide +kernel
theorem kb_bb : kitB "bool" "bool" = some true := by decide +kernel
theorem kb_ni : kitB "NoneType" "int" = some false := by decide +kernel
theorem kb_si : kitB "str" "int" = some false := by decide +kernel
theorem kb_li : kitB "list" "int" = some false := by decide +kernel
theorem kb_ti : kitB "tuple" "int" = some false := by decide +kernel
theorem kb_ll : kitB "list" "list" = some true := by decide +kernel
theorem kb_tl : kitB "tuple" "list" = some false := by decide +kernel
theorem kb_nl : kitB "NoneType" "list" = some false := by decide +kernel
theorem kb_il : kitB "int" "list" = some false := by decide +kernel
theorem kb_bl : kitB "bool" "list" = some false := by decide +kernel
theorem kb_sl : kitB "str" "list" = some false := by decide +kernel
theorem kb_tt : kitB "tuple" "tuple" = some true := by decide +kernel
theorem kb_lt : kitB "list" "tuple" = some false := by decide +kernel
theorem kb_nt : kitB "NoneType" "tuple" = some false := by decide +kernel
theorem kb_it : kitB "int" "tuple" = some false := by decide +kernel
theorem kb_bt : kitB "bool" "tuple" = some false := by decide +kernel
theorem kb_st : kitB "str" "tuple" = some false := by decide +kernel
end
end G

/-! Comprehensions on the plain side; the helpers that all laws share. -/
namespace G
open PySem PySem.Spec PyProof.Rows L2
section
variable {ρ : Env} {h : Store} {Q : D → Store → Prop} {QA : List D → Store → Prop} {e : ME} {t : MT} {w : MI} {g : MG} {vs : List Nat}
theorem w_lc : Wp (mLc w g t e vs ρ h) Q ↔ Wp (w ρ h) fun k h1 => k.ds.length ≤ 1000000 ∧ Wp (lcGo k.lv g t e (wipeD ρ vs) k.ds h1) fun ys h2 => Q (.ref h2.length) (h2 ++ [.lst ys]) := by
  unfold mLc
  rw [w_bnd]
  refine Wp.iff fun k h1 => ?_
  by_cases z : k.ds.length ≤ 1000000
  · rw [if_pos z, w_bnd]
    exact ⟨fun q => ⟨z, q.imp fun _ _ => w_ok.mp⟩, fun q => q.2.imp fun _ _ => w_ok.mpr⟩
  · rw [if_neg z]
    exact ⟨fun q => (w_stk.mp q).elim, fun q => (z q.1).elim⟩
theorem w_lc0 {lv : Store → Bool} : Wp (lcGo lv g t e ρ [] h) QA ↔ lv h = true ∧ QA [] h := by
  unfold lcGo
  by_cases z : lv h = true
  · rw [if_pos z]; exact ⟨fun q => ⟨z, w_ok.mp q⟩, fun q => w_ok.mpr q.2⟩
  · rw [if_neg z]; exact ⟨fun q => (w_stk.mp q).elim, fun q => (z q.1).elim⟩
theorem w_lc1 {lv : Store → Bool} {d : D} {ds : List D} : Wp (lcGo lv g t e ρ (d :: ds) h) QA ↔ lv h = true ∧ goQ (g d ρ) fun ρ1 => Wp (t ρ1 h) fun b h1 => if b = true then Wp (e ρ1 h1) fun y h2 => Wp (lcGo lv g t e ρ ds h2) fun ys h3 => QA (y :: ys) h3 else Wp (lcGo lv g t e ρ ds h1) QA := by
  conv => lhs; unfold lcGo
  by_cases z : lv h = true
  · rw [if_pos z]
    cases g d ρ with
    | none => exact ⟨fun q => (w_stk.mp q).elim, fun q => q.2.elim⟩
    | some ρ1 =>
      dsimp only [goQ]
      rw [w_bnd]
      have : ∀ b h1, Wp ((if b = true then bnd (e ρ1) fun y => bnd (lcGo lv g t e ρ ds) fun ys => ret (y :: ys) else lcGo lv g t e ρ ds) h1) QA ↔ if b = true then Wp (e ρ1 h1) fun y h2 => Wp (lcGo lv g t e ρ ds h2) fun ys h3 => QA (y :: ys) h3 else Wp (lcGo lv g t e ρ ds h1) QA := fun b h1 => by
        cases b
        · exact Iff.rfl
        · simp only [if_true, w_bnd, w_ret]
      rw [Wp.iff this]
      exact ⟨fun q => ⟨z, q⟩, fun q => q.2⟩
  · rw [if_neg z]; exact ⟨fun q => (w_stk.mp q).elim, fun q => (z q.1).elim⟩
/-- a comprehension by what holds between its turns -/
theorem lc_inv {lv : Store → Bool} {ds : List D} (I : Nat → List D → Store → Prop) (h0 : I 0 [] h) (hl : ∀ k acc h, k ≤ ds.length → I k acc h → lv h = true)
    (hs : ∀ (k : Nat) (d : D) acc h, ds[k]? = some d → I k acc h → goQ (g d ρ) fun ρ1 => Wp (t ρ1 h) fun b h1 => if b = true then Wp (e ρ1 h1) fun y h2 => I (k + 1) (acc ++ [y]) h2 else I (k + 1) acc h1)
    (hd : ∀ acc h, I ds.length acc h → QA acc h) : Wp (lcGo lv g t e ρ ds h) QA := by
  have key : ∀ (n k : Nat) acc h, n + k = ds.length → I k acc h → Wp (lcGo lv g t e ρ (ds.drop k) h) fun ys h2 => QA (acc ++ ys) h2 := by
    intro n
    induction n with
    | zero =>
      intro k acc h z i
      have : ds.drop k = [] := List.drop_eq_nil_iff.mpr (by omega)
      rw [this, w_lc0, List.append_nil]
      have z : k = ds.length := by omega
      subst z
      exact ⟨hl _ _ _ (Nat.le_refl _) i, hd _ _ i⟩
    | succ n ih =>
      intro k acc h z i
      have hk : k < ds.length := by omega
      rw [List.drop_eq_getElem_cons hk, w_lc1]
      refine ⟨hl _ _ _ (Nat.le_of_lt hk) i, ?_⟩
      have q := hs k ds[k] acc h (List.getElem?_eq_getElem hk) i
      cases y : g ds[k] ρ with
      | none => rw [y] at q; exact q.elim
      | some ρ1 =>
        rw [y] at q
        refine Wp.imp q fun b h1 q1 => ?_
        cases b with
        | false => exact ih (k + 1) acc h1 (by omega) q1
        | true =>
          refine Wp.imp q1 fun d h2 q2 => ?_
          refine Wp.imp (ih (k + 1) (acc ++ [d]) h2 (by omega) q2) fun ys h3 q3 => ?_
          rw [List.append_assoc] at q3
          exact q3
  have := key ds.length 0 [] h (by omega) h0
  simpa using this
end
section
variable {α : Type} {a b c d : α} {l : List α} {h : Store}
theorem at_0 : atI (a :: l) 0 = some a := by
  unfold atI ixN
  rw [if_pos (by omega), if_pos (by rw [List.length_cons]; omega)]
  rfl
theorem at_1 : atI (a :: b :: l) 1 = some b := by
  unfold atI ixN
  rw [if_pos (by omega), if_pos (by rw [List.length_cons, List.length_cons]; omega)]
  rfl
theorem at_2 : atI (a :: b :: c :: l) 2 = some c := by
  unfold atI ixN
  rw [if_pos (by omega), if_pos (by rw [List.length_cons, List.length_cons, List.length_cons]; omega)]
  rfl
theorem at_3 : atI (a :: b :: c :: d :: l) 3 = some d := by
  unfold atI ixN
  rw [if_pos (by omega), if_pos (by rw [List.length_cons, List.length_cons, List.length_cons, List.length_cons]; omega)]
  rfl
theorem at_m1 : atI [a] (-1) = some a := rfl
theorem ix1_0 : ixN 1 0 = some 0 := rfl
theorem ix2_0 : ixN 2 0 = some 0 := rfl
theorem ix2_1 : ixN 2 1 = some 1 := rfl
theorem ix3_0 : ixN 3 0 = some 0 := rfl
theorem ix3_1 : ixN 3 1 = some 1 := rfl
theorem ix3_2 : ixN 3 2 = some 2 := rfl
theorem getL_lset {n : Nat} {ys : List D} (hl : n < h.length) : getL (h.set n (.lst ys)) n = some ys := by
  unfold getL
  rw [List.getElem?_set_self hl]
theorem set_lt {n : Nat} {o : O} (hl : n < h.length) : n < (h.set n o).length := by rw [List.length_set]; exact hl
end
local macro_rules | `(tactic| walk_at "wps") => `(tactic| try simp only [G.w_bnd, G.w_ret, G.w_ok, G.w_var, G.s_z, G.s_s, G.w_c, G.w_op, G.w_un, G.w_nil, G.w_cons, G.w_cb, G.w_call, G.w_tup, G.w_alloc, G.w_lst, G.b_bl, G.w_asBl, G.w_test, G.w_yes, G.w_and, G.w_or, G.w_not, G.w_andV, G.w_orV, G.w_notV, G.w_ifx, G.w_nop, G.i_int, G.w_part, G.w_sl, G.w_next, G.w_rt, G.w_rtN, G.w_brk, G.w_cont, G.w_drop, G.q_nx, G.q_rt, G.q_bk, G.q_ct, G.w_seq, G.w_ifS, G.w_set, G.g_some, G.w_asg, G.w_setIx, G.w_aug, G.n_rt, G.n_nx, G.w_fn, G.w_for, G.w_wseq, G.k_tup, G.k_fzl, G.k_ref, G.w_wr1, G.w_wr2, G.f_add, G.f_sub, G.f_addI, G.f_mul, G.f_div, G.f_mod, G.f_pow, G.f_neg, G.f_cmp, G.f_isB, G.f_notB, G.f_isN, G.f_notN, G.n_non, G.n_int, G.n_bl, G.n_ref, G.n_tup, G.f_eq, G.f_ne, G.ty_non, G.ty_bl, G.ty_int, G.ty_str, G.ty_tup, G.ty_fzl, G.kb_ii, G.kb_ib, G.kb_bi, G.kb_bb, G.kb_ni, G.kb_si, G.kb_li, G.kb_ti, G.kb_ll, G.kb_tl, G.kb_nl, G.kb_il, G.kb_bl, G.kb_sl, G.kb_tt, G.kb_lt, G.kb_nt, G.kb_it, G.kb_bt, G.kb_st, decide_eq_true_eq, Bool.not_eq_true', decide_eq_false_iff_not, ↓reduceIte, eq_self, Bool.false_eq_true, Bool.true_eq_false, reduceCtorEq, Bool.not_true, Bool.not_false, ne_eq, not_false_eq_true, G.f_abs, G.f_int, G.f_intB, G.f_max2, G.f_min2, G.f_gcd, G.it_tupD, G.it_fzlD, G.it_refD, G.f_ix, G.f_len, G.f_list, G.f_setItem, G.f_slF, G.f_slR, G.f_isi, G.f_app, G.w_bm, G.oq_some, G.w_lc, List.map_cons, List.map_nil, List.length_cons, List.length_nil, List.cons_append, List.nil_append, Nat.zero_add, List.replicate, Nat.sub_self, Nat.reduceAdd, Nat.reduceSub, List.set_cons_zero, List.set_cons_succ, Option.some.injEq, exists_eq_left', exists_eq_left, true_and, and_true, G.at_0, G.at_1, G.at_2, G.at_3, G.at_m1, G.ix1_0, G.ix2_0, G.ix2_1, G.ix3_0, G.ix3_1, G.ix3_2, List.length_set, List.set_set])
local macro_rules | `(tactic| walk_at "wpx") => `(tactic| try simp only [G.w_bnd, G.w_ret, G.w_ok, G.w_var, G.s_z, G.s_s, G.w_c, G.w_op, G.w_un, G.w_nil, G.w_cons, G.w_cb, G.w_call, G.w_tup, G.w_alloc, G.w_lst, G.b_bl, G.w_asBl, G.w_test, G.w_yes, G.w_and, G.w_or, G.w_not, G.w_andV, G.w_orV, G.w_notV, G.w_ifx, G.w_nop, G.i_int, G.w_part, G.w_sl, G.w_next, G.w_rt, G.w_rtN, G.w_brk, G.w_cont, G.w_drop, G.q_nx, G.q_rt, G.q_bk, G.q_ct, G.w_seq, G.w_ifS, G.w_set, G.g_some, G.w_asg, G.w_setIx, G.w_aug, G.n_rt, G.n_nx, G.w_fn, G.w_for, G.w_wseq, G.k_tup, G.k_fzl, G.k_ref, G.w_wr1, G.w_wr2, G.f_add, G.f_sub, G.f_addI, G.f_mul, G.f_div, G.f_mod, G.f_pow, G.f_neg, G.f_cmp, G.f_isB, G.f_notB, G.f_isN, G.f_notN, G.n_non, G.n_int, G.n_bl, G.n_ref, G.n_tup, G.f_eq, G.f_ne, G.ty_non, G.ty_bl, G.ty_int, G.ty_str, G.ty_tup, G.ty_fzl, G.kb_ii, G.kb_ib, G.kb_bi, G.kb_bb, G.kb_ni, G.kb_si, G.kb_li, G.kb_ti, G.kb_ll, G.kb_tl, G.kb_nl, G.kb_il, G.kb_bl, G.kb_sl, G.kb_tt, G.kb_lt, G.kb_nt, G.kb_it, G.kb_bt, G.kb_st, decide_eq_true_eq, Bool.not_eq_true', decide_eq_false_iff_not, ↓reduceIte, eq_self, Bool.false_eq_true, Bool.true_eq_false, reduceCtorEq, Bool.not_true, Bool.not_false, ne_eq, not_false_eq_true, G.f_abs, G.f_int, G.f_intB, G.f_max2, G.f_min2, G.f_gcd, G.it_tupD, G.it_fzlD, G.it_refD, G.f_ix, G.f_len, G.f_list, G.f_setItem, G.f_slF, G.f_slR, G.f_isi, G.f_app, G.w_bm, G.oq_some, G.w_lc, List.map_cons, List.map_nil, List.length_cons, List.length_nil, List.cons_append, List.nil_append, Nat.zero_add, List.replicate, Nat.sub_self, Nat.reduceAdd, Nat.reduceSub, List.set_cons_zero, List.set_cons_succ, Option.some.injEq, exists_eq_left', exists_eq_left, true_and, and_true, G.at_0, G.at_1, G.at_2, G.at_3, G.at_m1, G.ix1_0, G.ix2_0, G.ix2_1, G.ix3_0, G.ix3_1, G.ix3_2, List.length_set, List.set_set, *])
local macro_rules | `(tactic| walk_at "wpz") => `(tactic| try simp only [G.w_bnd, G.w_ret, G.w_ok, G.w_var, G.s_z, G.s_s, G.w_c, G.w_op, G.w_un, G.w_nil, G.w_cons, G.w_cb, G.w_call, G.w_tup, G.w_alloc, G.w_lst, G.b_bl, G.w_asBl, G.w_test, G.w_yes, G.w_and, G.w_or, G.w_not, G.w_andV, G.w_orV, G.w_notV, G.w_ifx, G.w_nop, G.i_int, G.w_part, G.w_sl, G.w_next, G.w_rt, G.w_rtN, G.w_brk, G.w_cont, G.w_drop, G.q_rt, G.q_bk, G.q_ct, G.w_seq, G.w_ifS, G.w_set, G.g_some, G.w_asg, G.w_setIx, G.w_aug, G.n_rt, G.n_nx, G.w_fn, G.w_for, G.w_wseq, G.k_tup, G.k_fzl, G.k_ref, G.w_wr1, G.w_wr2, G.f_add, G.f_sub, G.f_addI, G.f_mul, G.f_div, G.f_mod, G.f_pow, G.f_neg, G.f_cmp, G.f_isB, G.f_notB, G.f_isN, G.f_notN, G.n_non, G.n_int, G.n_bl, G.n_ref, G.n_tup, G.f_eq, G.f_ne, G.ty_non, G.ty_bl, G.ty_int, G.ty_str, G.ty_tup, G.ty_fzl, G.kb_ii, G.kb_ib, G.kb_bi, G.kb_bb, G.kb_ni, G.kb_si, G.kb_li, G.kb_ti, G.kb_ll, G.kb_tl, G.kb_nl, G.kb_il, G.kb_bl, G.kb_sl, G.kb_tt, G.kb_lt, G.kb_nt, G.kb_it, G.kb_bt, G.kb_st, decide_eq_true_eq, Bool.not_eq_true', decide_eq_false_iff_not, ↓reduceIte, eq_self, Bool.false_eq_true, Bool.true_eq_false, reduceCtorEq, Bool.not_true, Bool.not_false, ne_eq, not_false_eq_true, G.f_abs, G.f_int, G.f_intB, G.f_max2, G.f_min2, G.f_gcd, G.it_tupD, G.it_fzlD, G.it_refD, G.f_ix, G.f_len, G.f_list, G.f_setItem, G.f_slF, G.f_slR, G.f_isi, G.f_app, G.w_bm, G.oq_some, G.w_lc, List.map_cons, List.map_nil, List.length_cons, List.length_nil, List.cons_append, List.nil_append, Nat.zero_add, List.replicate, Nat.sub_self, Nat.reduceAdd, Nat.reduceSub, List.set_cons_zero, List.set_cons_succ, Option.some.injEq, exists_eq_left', exists_eq_left, true_and, and_true, G.at_0, G.at_1, G.at_2, G.at_3, G.at_m1, G.ix1_0, G.ix2_0, G.ix2_1, G.ix3_0, G.ix3_1, G.ix3_2, List.length_set, List.set_set])
def m_law_int_b : MS :=
  (mRet (mAndV (mCB fIsi (mCons (mVar 0) (mCons (mC (.ty "int")) mNil))) (mNotV (mCB fIsi (mCons (mVar 0) (mCons (mC (.ty "bool")) mNil))))))
def m_law_int : List D → M D := mFn 1 m_law_int_b
def m_law_next_b : MS :=
  (mSeq (mSetIx (mVar 0) (mC (.int 1)) (mOp fAdd (mOp fIx (mVar 0) (mC (.int 1))) (mC (.int 1))))
  (mSeq (mIfS (mAnd (mTest (mOp (fEq false) (mOp fIx (mVar 0) (mC (.int 2))) (mC (.int 1)))) (mTest (mOp (fCmp fun i j => decide (j < i)) (mOp fIx (mVar 0) (mC (.int 0))) (mC (.int 0))))) (mSeq (mSet 2 (mOp fMod (mCB fInt (mCons (mOp fIx (mVar 0) (mC (.int 0))) mNil)) (mVar 1)))
  (mSeq (mSetIx (mVar 0) (mC (.int 0)) (mOp fDiv (mCB fInt (mCons (mOp fIx (mVar 0) (mC (.int 0))) mNil)) (mVar 1)))
  (mRet (mVar 2)))) mNext)
  (mSeq (mSet 3 (mOp fMod (mCB fInt (mCons (mOp fAdd (mOp fAdd (mOp fIx (mVar 0) (mC (.int 0))) (mOp fMul (mC (.int 7919)) (mOp fIx (mVar 0) (mC (.int 1))))) (mC (.int 13))) mNil)) (mC (.int 2147483647))))
  (mSeq (mSet 3 (mOp fMod (mCB fInt (mCons (mOp fMul (mVar 3) (mOp fAdd (mVar 3) (mC (.int 48271)))) mNil)) (mC (.int 2147483629))))
  (mSeq (mSet 3 (mOp fMod (mCB fInt (mCons (mOp fAdd (mOp fMul (mVar 3) (mOp fAdd (mVar 3) (mC (.int 69621)))) (mOp fMul (mC (.int 31)) (mOp fIx (mVar 0) (mC (.int 1))))) mNil)) (mC (.int 2147483647))))
  (mRet (mOp fMod (mCB fInt (mCons (mOp fDiv (mVar 3) (mC (.int 9))) mNil)) (mVar 1))))))))
def m_law_next : List D → M D := mFn 4 m_law_next_b
/-- a draw's state stands at st -/
def StA (h : Store) (st : Nat) : Prop := ∃ c k f : Int, getL h st = some [.int c, .int k, .int f]
theorem mul_small {i j : Int} (h : -(2 ^ 64) < i ∧ i < 2 ^ 64) : mulOk i j = true := by
  unfold mulOk
  rw [decide_eq_true h]
  rfl
theorem mul_small' {i j : Int} (h : -(2 ^ 64) < j ∧ j < 2 ^ 64) : mulOk i j = true := by
  unfold mulOk
  rw [decide_eq_true h]
  simp
theorem log2_small {j : Int} (h : j.natAbs < 2 ^ 64) : j.natAbs.log2 < 9000 := Nat.lt_of_lt_of_le (PySem.Flt.log2_lt_of (by decide) h) (by decide)
theorem fmod_bd {i j : Int} (h : 0 < j) : 0 ≤ i.fmod j ∧ i.fmod j < j := by
  rw [Int.fmod_eq_emod_of_nonneg i (by omega)]
  exact ⟨Int.emod_nonneg _ (by omega), Int.emod_lt_of_pos _ h⟩
theorem eq_D {a b : Int} : (D.int a = D.int b) ↔ a = b := by
  constructor
  · intro h; cases h; rfl
  · intro h; rw [h]
theorem next_spec {h : Store} {st : Nat} {size : Int} (hs : StA h st) (h0 : 0 < size) (h1 : size < 2 ^ 64) : Wp (m_law_next [.ref st, .int size] h) fun d h' => ∃ v c k f : Int, d = .int v ∧ 0 ≤ v ∧ v < size ∧ h' = h.set st (.lst [.int c, .int k, .int f]) := by
  obtain ⟨c, k, f, e⟩ := hs
  have hl := getL_lt e
  have g : ∀ ys, getL (h.set st (.lst ys)) st = some ys := fun ys => getL_lset hl
  have hn : size ≠ 0 := by omega
  have hb : size.natAbs.log2 < 9000 := log2_small (by omega)
  unfold m_law_next m_law_next_b
  walk_at "wpx"
  have fb := fun x : Int => fmod_bd (i := x) h0
  have m1 : ∀ x : Int, -(2 ^ 64) < x.fmod 2147483647 ∧ x.fmod 2147483647 < 2 ^ 64 := fun x => by
    have := fmod_bd (i := x) (j := 2147483647) (by decide)
    omega
  have m2 : ∀ x : Int, -(2 ^ 64) < x.fmod 2147483629 ∧ x.fmod 2147483629 < 2 ^ 64 := fun x => by
    have := fmod_bd (i := x) (j := 2147483629) (by decide)
    omega
  have a1 : mulOk 7919 (k + 1) = true := mul_small (by decide)
  have a2 : mulOk 31 (k + 1) = true := mul_small (by decide)
  have a3 := fun x y : Int => mul_small (j := y) (m1 x)
  have a4 := fun x y : Int => mul_small (j := y) (m2 x)
  have a5 : (Int.natAbs 9).log2 < 9000 := log2_small (by decide)
  simp only [a1, a2, a3, a4, a5, hn, hb, ne_eq, not_false_eq_true, true_and, Bool.false_eq_true, if_false]
  have fin1 : ∀ x y z : Int, ∃ v c_1 k_1 f_1 : Int, D.int (x.fmod size) = D.int v ∧ 0 ≤ v ∧ v < size ∧ List.set h st (O.lst [D.int y, D.int z, D.int f]) = List.set h st (O.lst [D.int c_1, D.int k_1, D.int f_1]) :=
    fun x y z => ⟨_, _, _, _, rfl, (fb x).1, (fb x).2, rfl⟩
  repeat' split
  all_goals first
    | exact fin1 _ _ _
    | exact ⟨by decide, by decide, by decide, by decide, fin1 _ _ _⟩
    | exact ⟨by decide, by decide, fin1 _ _ _⟩
theorem StA.set {h : Store} {st : Nat} (hs : StA h st) {c k f : Int} : StA (h.set st (.lst [.int c, .int k, .int f])) st := by
  obtain ⟨_, _, _, e⟩ := hs
  exact ⟨c, k, f, getL_lset (getL_lt e)⟩
def m_law_state_b : MS :=
  (mSeq (mSet 2 (mC (.int 0)))
  (mSeq (mIfS (mTest (mOp (fCmp fun i j => decide (i < j)) (mVar 1) (mCB fLen (mCons (mVar 0) mNil)))) (mSet 2 (mCB fAbs (mCons (mCB fInt (mCons (mOp fIx (mVar 0) (mVar 1)) mNil)) mNil))) mNext)
  (mSeq (mIfS (mTest (mOp (fCmp fun i j => decide (j ≤ i)) (mVar 2) (mC (.int 1000000000000000000)))) (mRet (mLst (mCons (mVar 2) (mCons (mC (.int 0)) (mCons (mC (.int 1)) mNil))))) mNext)
  (mSeq (mFor (wSeq (mSl fSl (mVar 0) mNoPart (mPart (mC (.int 63))))) (gmName 3) (mSet 2 (mOp fMod (mCB fInt (mCons (mOp fAdd (mOp fAdd (mOp fMul (mVar 2) (mC (.int 31))) (mCB fAbs (mCons (mCB fInt (mCons (mVar 3) mNil)) mNil))) (mVar 1)) mNil)) (mC (.int 999999999989)))))
  (mRet (mLst (mCons (mOp fAdd (mVar 2) (mOp fMul (mC (.int 101)) (mVar 1))) (mCons (mC (.int 0)) (mCons (mC (.int 0)) mNil)))))))))
def m_law_state : List D → M D := mFn 4 m_law_state_b
theorem ints_at {ns : List Int} {k : Nat} {d : D} (e : (ns.map D.int)[k]? = some d) : ∃ z ∈ ns, d = .int z := by
  rw [List.getElem?_map] at e
  obtain ⟨z, hz, rfl⟩ := Option.map_eq_some_iff.mp e
  exact ⟨z, List.mem_of_getElem? hz, rfl⟩
theorem line_small {n : Nat} (h : n ≤ 1000) : n ≤ sizeLine := by rw [sizeLine_eq]; omega
/-- a new state -/
def NewSt (h : Store) (d : D) (h' : Store) : Prop := ∃ st l, d = .ref st ∧ StA h' st ∧ h' = h ++ l ∧ h.length ≤ st
theorem state_tail {ns : List Int} {k c : Int} {d3 : Option D} {h : Store} :
    Wp ((mSeq (mFor (wSeq (mSl fSl (mVar 0) mNoPart (mPart (mC (.int 63))))) (gmName 3) (mSet 2 (mOp fMod (mCB fInt (mCons (mOp fAdd (mOp fAdd (mOp fMul (mVar 2) (mC (.int 31))) (mCB fAbs (mCons (mCB fInt (mCons (mVar 3) mNil)) mNil))) (mVar 1)) mNil)) (mC (.int 999999999989)))))
  (mRet (mLst (mCons (mOp fAdd (mVar 2) (mOp fMul (mC (.int 101)) (mVar 1))) (mCons (mC (.int 0)) (mCons (mC (.int 0)) mNil)))))) [some (.fzl (ns.map D.int)), some (.int k), some (.int c), d3] h) (endQ (NewSt h)) := by
  walk_at "wps"
  rw [getL_new]
  walk_at "wps"
  refine for_inv (fun _ ρ h' => h' = h ++ [.lst (cutD (ns.map D.int) none (some 63))] ∧ ∃ c d3, ρ = [some (.fzl (ns.map D.int)), some (.int k), some (.int c), d3]) ⟨rfl, c, d3, rfl⟩ ?_ ?_ ?_
  · rintro _ _ _ _ ⟨rfl, _⟩
    rw [getL_new]
    exact decide_eq_true rfl
  · rintro i d _ _ hd ⟨rfl, c, d3, rfl⟩
    have : ∃ z ∈ ns, d = .int z := by
      unfold cutD at hd
      rw [List.getElem?_take] at hd
      split at hd
      · rw [List.getElem?_drop] at hd
        exact ints_at hd
      · cases hd
    obtain ⟨z, _, rfl⟩ := this
    have a1 : ∀ c, mulOk c 31 = true := fun c => mul_small' (by decide)
    show goQ (some _) _
    walk_at "wps"
    exact ⟨a1 _, by decide, _, _, rfl⟩
  · rintro _ _ ⟨rfl, c, d3, rfl⟩
    have a1 : mulOk 101 k = true := mul_small (by decide)
    walk_at "wpx"
    refine ⟨line_small (by decide), _, [.lst (cutD (ns.map D.int) none (some 63)), .lst [.int (c + 101 * k), .int 0, .int 0]], rfl, ⟨c + 101 * k, 0, 0, ?_⟩, by simp, by simp⟩
    exact getL_new
theorem state_spec {ns : List Int} {k : Nat} {h : Store} : Wp (m_law_state [.fzl (ns.map D.int), .int (k : Int)] h) (NewSt h) := by
  have key : ∀ (c : Int) (d3 : Option D), Wp ((mSeq (mIfS (mTest (mOp (fCmp fun i j => decide (j ≤ i)) (mVar 2) (mC (.int 1000000000000000000)))) (mRet (mLst (mCons (mVar 2) (mCons (mC (.int 0)) (mCons (mC (.int 1)) mNil))))) mNext)
    (mSeq (mFor (wSeq (mSl fSl (mVar 0) mNoPart (mPart (mC (.int 63))))) (gmName 3) (mSet 2 (mOp fMod (mCB fInt (mCons (mOp fAdd (mOp fAdd (mOp fMul (mVar 2) (mC (.int 31))) (mCB fAbs (mCons (mCB fInt (mCons (mVar 3) mNil)) mNil))) (mVar 1)) mNil)) (mC (.int 999999999989)))))
    (mRet (mLst (mCons (mOp fAdd (mVar 2) (mOp fMul (mC (.int 101)) (mVar 1))) (mCons (mC (.int 0)) (mCons (mC (.int 0)) mNil))))))) [some (.fzl (ns.map D.int)), some (.int k), some (.int c), d3] h) (endQ (NewSt h)) := fun c d3 => by
    rw [w_seq]
    simp only [w_ifS, w_test, w_op, w_var, s_z, s_s, w_c, f_cmp, b_bl]
    split
    · walk_at "wps"
      exact ⟨line_small (by decide), _, [_], rfl, ⟨_, _, _, getL_new⟩, rfl, Nat.le_refl _⟩
    · rw [w_next, q_nx]
      exact state_tail
  unfold m_law_state m_law_state_b
  walk_at "wpz"
  rw [q_nx, w_seq]
  walk_at "wpz"
  split
  · next hk =>
    rw [List.length_map] at hk
    have hk' : k < ns.length := by omega
    have e : atI (ns.map D.int) (k : Int) = some (.int ns[k]) := atI_nat (by rw [List.getElem?_map, List.getElem?_eq_getElem hk']; rfl)
    rw [e]
    walk_at "wpz"
    exact key _ _
  · exact key _ _
/-! ### the frame of a draw -/
/-- all but the place st stands; more may have come -/
def Ch (st : Nat) (h h' : Store) : Prop := h.length ≤ h'.length ∧ ∀ n, n < h.length → n ≠ st → h'[n]? = h[n]?
theorem Ch.refl (st : Nat) (h : Store) : Ch st h h := ⟨Nat.le_refl _, fun _ _ _ => rfl⟩
theorem Ch.trans {st : Nat} {h h1 h2 : Store} (a : Ch st h h1) (b : Ch st h1 h2) : Ch st h h2 :=
  ⟨Nat.le_trans a.1 b.1, fun n hn hs => (b.2 n (Nat.lt_of_lt_of_le hn a.1) hs).trans (a.2 n hn hs)⟩
theorem Ch.set {st : Nat} {h : Store} {o : O} : Ch st h (h.set st o) := ⟨by rw [List.length_set]; exact Nat.le_refl _, fun n _ hs => List.getElem?_set_ne (Ne.symm hs)⟩
theorem Ch.app {st : Nat} {h l : Store} : Ch st h (h ++ l) := ⟨by rw [List.length_append]; omega, fun n hn _ => List.getElem?_append_left hn⟩
theorem Ch.getL {st n : Nat} {h h' : Store} {l : List D} (c : Ch st h h') (e : G.getL h n = some l) (hn : n ≠ st) : G.getL h' n = some l := by
  have := c.2 n (getL_lt e) hn
  unfold G.getL at e ⊢
  rw [this]
  exact e
theorem StA.app {st : Nat} {h l : Store} (s : StA h st) : StA (h ++ l) st := by
  obtain ⟨c, k, f, e⟩ := s
  exact ⟨c, k, f, by rw [getL_old (getL_lt e)]; exact e⟩
theorem next_sp {h : Store} {st : Nat} {size : Int} (hs : StA h st) (h0 : 0 < size := by decide) (h1 : size < 2 ^ 64 := by decide) : Wp (m_law_next [.ref st, .int size] h) fun d h' => ∃ v : Int, d = .int v ∧ 0 ≤ v ∧ v < size ∧ StA h' st ∧ Ch st h h' :=
  Wp.imp (next_spec hs h0 h1) fun d h' ⟨v, c, k, f, e, p, q, r⟩ => ⟨v, e, p, q, by rw [r]; exact hs.set, by rw [r]; exact Ch.set⟩
theorem lint_spec {h : Store} {z : Int} : Wp (m_law_int [.int z] h) fun d h' => d = .bl true ∧ h' = h := by
  unfold m_law_int m_law_int_b
  walk_at "wps"
def m_law_ints_b : MS :=
  (mSeq (mIfS (mNot (mTest (mCB fIsi (mCons (mVar 0) (mCons (mC (.ty "list")) mNil))))) (mRet (mC (.bl false))) mNext)
  (mRet (mOp (fEq false) (mCB fLen (mCons (mLc (wSeq (mVar 0)) (gmName 1) (mNot (mTest (mCall 1 m_law_int (mCons (mVar 1) mNil)))) (mVar 1) [1]) mNil)) (mC (.int 0)))))
def m_law_ints : List D → M D := mFn 2 m_law_ints_b
/-- a list of ints is one -/
theorem lints_spec {h : Store} {n : Nat} {zs : List Int} (e : getL h n = some (zs.map D.int)) (hz : zs.length ≤ 1000000) : Wp (m_law_ints [.ref n] h) fun d h' => d = .bl true ∧ h' = h ++ [.lst []] := by
  unfold m_law_ints m_law_ints_b
  have t := ty_ref e
  walk_at "wps"
  simp only [t, e]
  walk_at "wps"
  refine ⟨by rw [List.length_map]; exact hz, ?_⟩
  refine lc_inv (fun k acc h' => acc = [] ∧ h' = h) ⟨rfl, rfl⟩ ?_ ?_ ?_
  · rintro k acc h' _ ⟨_, rfl⟩
    rw [e]
    exact decide_eq_true rfl
  · rintro k d acc h' hd ⟨rfl, rfl⟩
    obtain ⟨z, _, rfl⟩ := ints_at hd
    show goQ (some _) _
    unfold wipeD wipeD
    walk_at "wps"
    refine lint_spec.imp ?_
    rintro _ _ ⟨rfl, rfl⟩
    walk_at "wps"
  · rintro acc h' ⟨rfl, rfl⟩
    rw [getL_new]
    walk_at "wps"
    simp
/-! == of data -/
theorem toPys_nil {h : Store} {n : Nat} : toPys h n [] = some [] := by cases n <;> (unfold toPys; rfl)
theorem toPys_ints {h : Store} : ∀ (zs : List Int) (n : Nat), zs.length ≤ n → toPys h n (zs.map D.int) = some (zs.map PyData.int)
  | [], n, _ => toPys_nil
  | z :: zs, 0, e => by simp at e
  | z :: zs, n + 1, e => by
    have ih := toPys_ints (h := h) zs n (by simpa using e)
    rw [List.map_cons]
    unfold toPys
    rw [toPy_int, ih]
    rfl
theorem toPy_tup {h : Store} {n : Nat} {l : List D} : toPy h (n + 1) (.tup l) = (toPys h n l).map .tuple := by
  conv => lhs; unfold toPy
theorem toPy_fzl {h : Store} {n : Nat} {l : List D} : toPy h (n + 1) (.fzl l) = (toPys h n l).map .list := by
  conv => lhs; unfold toPy
theorem toPy_ref {h : Store} {n k : Nat} {l : List D} (e : getL h k = some l) : toPy h (n + 1) (.ref k) = (toPys h n l).map .list := by
  conv => lhs; unfold toPy
  rw [e]
theorem deep_s : deep = 1999999 + 1 := rfl
theorem toPy_tints {h : Store} {zs : List Int} (e : zs.length ≤ 1999999) : toPy h deep (.tup (zs.map D.int)) = some (.tuple (zs.map PyData.int)) := by
  rw [deep_s, toPy_tup, toPys_ints zs _ e]
  rfl
theorem shaped_ints {zs : List Int} : SeqAt.shaped (.tuple (zs.map PyData.int)) = true ∧ SeqAt.shaped (.list (zs.map PyData.int)) = true := by
  have h1 : ∀ zs : List Int, PyData.canLayAll0 (zs.map PyData.int) = true := by
    intro zs
    induction zs with
    | nil => unfold PyData.canLayAll0; rfl
    | cons z zs ih => rw [List.map_cons]; unfold PyData.canLayAll0; rw [ih]; unfold PyData.canLay0; rfl
  have h2 : ∀ zs : List Int, PyData.depthAll (zs.map PyData.int) = 0 := by
    intro zs
    induction zs with
    | nil => unfold PyData.depthAll; rfl
    | cons z zs ih => rw [List.map_cons]; unfold PyData.depthAll; rw [ih]; unfold PyData.depth; rfl
  constructor <;>
  · unfold SeqAt.shaped PyData.canLay0 PyData.depth
    rw [h1, h2]
    decide
theorem eqvAll_ints : ∀ (xs ys : List Int), PyData.eqvAll (xs.map PyData.int) (ys.map PyData.int) = decide (xs = ys)
  | [], [] => rfl
  | [], _ :: _ => by simp [PyData.eqvAll]
  | _ :: _, [] => by simp [PyData.eqvAll]
  | x :: xs, y :: ys => by
    rw [List.map_cons, List.map_cons]
    unfold PyData.eqvAll PyData.eqv
    rw [eqvAll_ints xs ys, Bool.eq_iff_iff]
    simp
theorem feq_tints {h : Store} {xs ys : List Int} {n : Bool} {Q : D → Store → Prop} (ex : xs.length ≤ 1999999) (ey : ys.length ≤ 1999999) : Wp (fEq n (.tup (xs.map D.int)) (.tup (ys.map D.int)) h) Q ↔ Q (.bl (if n then !decide (xs = ys) else decide (xs = ys))) h := by
  unfold fEq
  rw [toPy_tints ex, toPy_tints ey]
  dsimp only
  rw [if_pos ⟨shaped_ints.1, shaped_ints.1⟩]
  unfold PyData.eqv
  rw [eqvAll_ints]
  exact w_ok
end G

/-! mirrors, printed by gen.py -/
namespace K27
open PySem PySem.Spec PyProof.Rows L2 G

def m_ratio_b : MS :=
  (mSeq (mSet 2 (mCB fGcd (mCons (mVar 0) (mCons (mVar 1) mNil))))
  (mSeq (mIfS (mTest (mOp (fCmp fun i j => decide (i < j)) (mVar 1) (mC (.int 0)))) (mSet 2 (mUn fNeg (mVar 2))) mNext)
  (mRet (mTup (mCons (mOp fDiv (mVar 0) (mVar 2)) (mCons (mOp fDiv (mVar 1) (mVar 2)) mNil))))))
def m_ratio : List D → M D := mFn 3 m_ratio_b

def m_below_b : MS :=
  (mRet (mOp (fCmp fun i j => decide (i < j)) (mOp fMul (mOp fIx (mVar 0) (mC (.int 0))) (mOp fIx (mVar 1) (mC (.int 1)))) (mOp fMul (mOp fIx (mVar 1) (mC (.int 0))) (mOp fIx (mVar 0) (mC (.int 1))))))
def m_below : List D → M D := mFn 2 m_below_b

def m_law_int_b : MS :=
  (mRet (mAndV (mCB fIsi (mCons (mVar 0) (mCons (mC (.ty "int")) mNil))) (mNotV (mCB fIsi (mCons (mVar 0) (mCons (mC (.ty "bool")) mNil))))))
def m_law_int : List D → M D := mFn 1 m_law_int_b

def m_law_state_b : MS :=
  (mSeq (mSet 2 (mC (.int 0)))
  (mSeq (mIfS (mTest (mOp (fCmp fun i j => decide (i < j)) (mVar 1) (mCB fLen (mCons (mVar 0) mNil)))) (mSet 2 (mCB fAbs (mCons (mCB fInt (mCons (mOp fIx (mVar 0) (mVar 1)) mNil)) mNil))) mNext)
  (mSeq (mIfS (mTest (mOp (fCmp fun i j => decide (j ≤ i)) (mVar 2) (mC (.int 1000000000000000000)))) (mRet (mLst (mCons (mVar 2) (mCons (mC (.int 0)) (mCons (mC (.int 1)) mNil))))) mNext)
  (mSeq (mFor (wSeq (mSl fSl (mVar 0) mNoPart (mPart (mC (.int 63))))) (gmName 3) (mSet 2 (mOp fMod (mCB fInt (mCons (mOp fAdd (mOp fAdd (mOp fMul (mVar 2) (mC (.int 31))) (mCB fAbs (mCons (mCB fInt (mCons (mVar 3) mNil)) mNil))) (mVar 1)) mNil)) (mC (.int 999999999989)))))
  (mRet (mLst (mCons (mOp fAdd (mVar 2) (mOp fMul (mC (.int 101)) (mVar 1))) (mCons (mC (.int 0)) (mCons (mC (.int 0)) mNil)))))))))
def m_law_state : List D → M D := mFn 4 m_law_state_b

def m_law_next_b : MS :=
  (mSeq (mSetIx (mVar 0) (mC (.int 1)) (mOp fAdd (mOp fIx (mVar 0) (mC (.int 1))) (mC (.int 1))))
  (mSeq (mIfS (mAnd (mTest (mOp (fEq false) (mOp fIx (mVar 0) (mC (.int 2))) (mC (.int 1)))) (mTest (mOp (fCmp fun i j => decide (j < i)) (mOp fIx (mVar 0) (mC (.int 0))) (mC (.int 0))))) (mSeq (mSet 2 (mOp fMod (mCB fInt (mCons (mOp fIx (mVar 0) (mC (.int 0))) mNil)) (mVar 1)))
  (mSeq (mSetIx (mVar 0) (mC (.int 0)) (mOp fDiv (mCB fInt (mCons (mOp fIx (mVar 0) (mC (.int 0))) mNil)) (mVar 1)))
  (mRet (mVar 2)))) mNext)
  (mSeq (mSet 3 (mOp fMod (mCB fInt (mCons (mOp fAdd (mOp fAdd (mOp fIx (mVar 0) (mC (.int 0))) (mOp fMul (mC (.int 7919)) (mOp fIx (mVar 0) (mC (.int 1))))) (mC (.int 13))) mNil)) (mC (.int 2147483647))))
  (mSeq (mSet 3 (mOp fMod (mCB fInt (mCons (mOp fMul (mVar 3) (mOp fAdd (mVar 3) (mC (.int 48271)))) mNil)) (mC (.int 2147483629))))
  (mSeq (mSet 3 (mOp fMod (mCB fInt (mCons (mOp fAdd (mOp fMul (mVar 3) (mOp fAdd (mVar 3) (mC (.int 69621)))) (mOp fMul (mC (.int 31)) (mOp fIx (mVar 0) (mC (.int 1))))) mNil)) (mC (.int 2147483647))))
  (mRet (mOp fMod (mCB fInt (mCons (mOp fDiv (mVar 3) (mC (.int 9))) mNil)) (mVar 1))))))))
def m_law_next : List D → M D := mFn 4 m_law_next_b

def m_law_common_b : MS :=
  (mSeq (mFor (wRng1 (mCons (mC (.int 500)) mNil)) (gmName 2) (mSeq (mIfS (mTest (mOp (fEq false) (mVar 1) (mC (.int 0)))) (mRet (mVar 0)) mNext)
  (mSeq (mSet 3 (mOp fMod (mCB fInt (mCons (mVar 0) mNil)) (mVar 1)))
  (mSeq (mSet 0 (mVar 1))
  (mSet 1 (mVar 3))))))
  (mRet (mC (.int 0))))
def m_law_common : List D → M D := mFn 4 m_law_common_b

def m_plus_b : MS :=
  (mRet (mCall 2 m_ratio (mCons (mOp fAdd (mOp fMul (mOp fIx (mVar 0) (mC (.int 0))) (mOp fIx (mVar 1) (mC (.int 1)))) (mOp fMul (mOp fIx (mVar 1) (mC (.int 0))) (mOp fIx (mVar 0) (mC (.int 1))))) (mCons (mOp fMul (mOp fIx (mVar 0) (mC (.int 1))) (mOp fIx (mVar 1) (mC (.int 1)))) mNil))))
def m_plus : List D → M D := mFn 2 m_plus_b

def m_minus_b : MS :=
  (mRet (mCall 2 m_ratio (mCons (mOp fSub (mOp fMul (mOp fIx (mVar 0) (mC (.int 0))) (mOp fIx (mVar 1) (mC (.int 1)))) (mOp fMul (mOp fIx (mVar 1) (mC (.int 0))) (mOp fIx (mVar 0) (mC (.int 1))))) (mCons (mOp fMul (mOp fIx (mVar 0) (mC (.int 1))) (mOp fIx (mVar 1) (mC (.int 1)))) mNil))))
def m_minus : List D → M D := mFn 2 m_minus_b

def m_times_b : MS :=
  (mRet (mCall 2 m_ratio (mCons (mOp fMul (mOp fIx (mVar 0) (mC (.int 0))) (mOp fIx (mVar 1) (mC (.int 0)))) (mCons (mOp fMul (mOp fIx (mVar 0) (mC (.int 1))) (mOp fIx (mVar 1) (mC (.int 1)))) mNil))))
def m_times : List D → M D := mFn 2 m_times_b

def m_over_b : MS :=
  (mRet (mCall 2 m_ratio (mCons (mOp fMul (mOp fIx (mVar 0) (mC (.int 0))) (mOp fIx (mVar 1) (mC (.int 1)))) (mCons (mOp fMul (mOp fIx (mVar 0) (mC (.int 1))) (mOp fIx (mVar 1) (mC (.int 0)))) mNil))))
def m_over : List D → M D := mFn 2 m_over_b

def m_law_ints_b : MS :=
  (mSeq (mIfS (mNot (mTest (mCB fIsi (mCons (mVar 0) (mCons (mC (.ty "list")) mNil))))) (mRet (mC (.bl false))) mNext)
  (mRet (mOp (fEq false) (mCB fLen (mCons (mLc (wSeq (mVar 0)) (gmName 1) (mNot (mTest (mCall 1 m_law_int (mCons (mVar 1) mNil)))) (mVar 1) [1]) mNil)) (mC (.int 0)))))
def m_law_ints : List D → M D := mFn 2 m_law_ints_b

def m_law_big_b : MS :=
  (mSeq (mSet 2 (mC (.int 0)))
  (mSeq (mFor (wRng1 (mCons (mOp fAdd (mC (.int 1)) (mCall 2 m_law_next (mCons (mVar 0) (mCons (mVar 1) mNil)))) mNil)) (gmName 3) (mSet 2 (mOp fAdd (mOp fMul (mVar 2) (mC (.int 10))) (mCall 2 m_law_next (mCons (mVar 0) (mCons (mC (.int 10)) mNil))))))
  (mRet (mVar 2))))
def m_law_big : List D → M D := mFn 4 m_law_big_b

def m_law_signed_b : MS :=
  (mSeq (mIfS (mTest (mOp (fEq false) (mCall 2 m_law_next (mCons (mVar 0) (mCons (mC (.int 2)) mNil))) (mC (.int 1)))) (mRet (mOp fSub (mC (.int 0)) (mVar 1))) mNext)
  (mRet (mVar 1)))
def m_law_signed : List D → M D := mFn 2 m_law_signed_b

def m_law_lowest_b : MS :=
  (mSeq (mSet 2 (mCall 2 m_law_common (mCons (mCB fAbs (mCons (mVar 0) mNil)) (mCons (mCB fAbs (mCons (mVar 1) mNil)) mNil))))
  (mSeq (mIfS (mTest (mOp (fCmp fun i j => decide (i < j)) (mVar 1) (mC (.int 0)))) (mRet (mTup (mCons (mOp fSub (mC (.int 0)) (mOp fDiv (mVar 0) (mVar 2))) (mCons (mOp fSub (mC (.int 0)) (mOp fDiv (mVar 1) (mVar 2))) mNil)))) mNext)
  (mRet (mTup (mCons (mOp fDiv (mVar 0) (mVar 2)) (mCons (mOp fDiv (mVar 1) (mVar 2)) mNil))))))
def m_law_lowest : List D → M D := mFn 3 m_law_lowest_b

def m_law_less_b : MS :=
  (mSeq (mIfS (mTest (mOp (fCmp fun i j => decide (i < j)) (mOp fMul (mOp fIx (mVar 0) (mC (.int 0))) (mOp fIx (mVar 1) (mC (.int 1)))) (mOp fMul (mOp fIx (mVar 1) (mC (.int 0))) (mOp fIx (mVar 0) (mC (.int 1)))))) (mRet (mOp (fIsB false) (mCall 2 m_below (mCons (mVar 0) (mCons (mVar 1) mNil))) (mC (.bl true)))) mNext)
  (mRet (mOp (fIsB false) (mCall 2 m_below (mCons (mVar 0) (mCons (mVar 1) mNil))) (mC (.bl false)))))
def m_law_less : List D → M D := mFn 2 m_law_less_b

def m_law_fraction_b : MS :=
  (mSeq (mSet 1 (mCall 2 m_law_next (mCons (mVar 0) (mCons (mC (.int 5)) mNil))))
  (mSeq (mIfS (mTest (mOp (fEq false) (mVar 1) (mC (.int 1)))) (mSeq (mSet 2 (mOp fAdd (mC (.int 1)) (mCall 2 m_law_big (mCons (mVar 0) (mCons (mC (.int 19)) mNil)))))
  (mRet (mLst (mCons (mCall 2 m_law_signed (mCons (mVar 0) (mCons (mOp fMul (mVar 2) (mCall 2 m_law_big (mCons (mVar 0) (mCons (mC (.int 20)) mNil)))) mNil))) (mCons (mCall 2 m_law_signed (mCons (mVar 0) (mCons (mOp fMul (mVar 2) (mOp fAdd (mC (.int 1)) (mCall 2 m_law_big (mCons (mVar 0) (mCons (mC (.int 19)) mNil))))) mNil))) mNil))))) mNext)
  (mSeq (mIfS (mTest (mOp (fEq false) (mVar 1) (mC (.int 2)))) (mRet (mLst (mCons (mCall 2 m_law_signed (mCons (mVar 0) (mCons (mCall 2 m_law_next (mCons (mVar 0) (mCons (mC (.int 30)) mNil))) mNil))) (mCons (mCall 2 m_law_signed (mCons (mVar 0) (mCons (mOp fAdd (mC (.int 1)) (mCall 2 m_law_next (mCons (mVar 0) (mCons (mC (.int 30)) mNil)))) mNil))) mNil)))) mNext)
  (mSeq (mSet 3 (mCall 2 m_law_signed (mCons (mVar 0) (mCons (mCall 2 m_law_big (mCons (mVar 0) (mCons (mC (.int 40)) mNil))) mNil))))
  (mSeq (mSet 4 (mCall 2 m_law_signed (mCons (mVar 0) (mCons (mCB fMax2 (mCons (mC (.int 1)) (mCons (mCall 2 m_law_big (mCons (mVar 0) (mCons (mC (.int 40)) mNil))) mNil))) mNil))))
  (mSeq (mIfS (mTest (mOp (fEq false) (mVar 1) (mC (.int 3)))) (mSet 4 (mCall 2 m_law_signed (mCons (mVar 0) (mCons (mC (.int 1)) mNil)))) mNext)
  (mSeq (mIfS (mAnd (mTest (mOp (fEq false) (mVar 1) (mC (.int 4)))) (mTest (mOp (fEq false) (mCall 2 m_law_next (mCons (mVar 0) (mCons (mC (.int 2)) mNil))) (mC (.int 0))))) (mSet 3 (mC (.int 0))) mNext)
  (mRet (mLst (mCons (mVar 3) (mCons (mVar 4) mNil)))))))))))
def m_law_fraction : List D → M D := mFn 5 m_law_fraction_b

def m_law_stands_b : MS :=
  (mSeq (mIfS (mOr (mNot (mTest (mCB fIsi (mCons (mVar 0) (mCons (mC (.ty "tuple")) mNil))))) (mOr (mTest (mOp (fEq true) (mCB fLen (mCons (mVar 0) mNil)) (mC (.int 2)))) (mNot (mTest (mCall 1 m_law_ints (mCons (mCB fList (mCons (mVar 0) mNil)) mNil)))))) (mRet (mC (.bl false))) mNext)
  (mSeq (mIfS (mOr (mTest (mOp (fCmp fun i j => decide (i ≤ j)) (mOp fIx (mVar 0) (mC (.int 1))) (mC (.int 0)))) (mTest (mOp (fEq true) (mOp fMul (mOp fIx (mVar 0) (mC (.int 0))) (mVar 2)) (mOp fMul (mVar 1) (mOp fIx (mVar 0) (mC (.int 1))))))) (mRet (mC (.bl false))) mNext)
  (mRet (mOp (fEq false) (mCall 2 m_law_common (mCons (mCB fAbs (mCons (mOp fIx (mVar 0) (mC (.int 0))) mNil)) (mCons (mOp fIx (mVar 0) (mC (.int 1))) mNil))) (mC (.int 1))))))
def m_law_stands : List D → M D := mFn 3 m_law_stands_b

def m_law_other_b : MS :=
  (mSeq (mSet 2 (mCall 2 m_law_next (mCons (mVar 0) (mCons (mC (.int 7)) mNil))))
  (mSeq (mIfS (mTest (mOp (fEq false) (mVar 2) (mC (.int 1)))) (mRet (mVar 1)) mNext)
  (mSeq (mIfS (mTest (mOp (fEq false) (mVar 2) (mC (.int 2)))) (mRet (mTup (mCons (mOp fSub (mC (.int 0)) (mOp fIx (mVar 1) (mC (.int 0)))) (mCons (mOp fIx (mVar 1) (mC (.int 1))) mNil)))) mNext)
  (mSeq (mIfS (mAnd (mTest (mOp (fEq false) (mVar 2) (mC (.int 3)))) (mAnd (mTest (mOp (fCmp fun i j => decide (i < j)) (mCB fAbs (mCons (mOp fIx (mVar 1) (mC (.int 0))) mNil)) (mOp fPow (mC (.int 10)) (mC (.int 20))))) (mTest (mOp (fCmp fun i j => decide (i < j)) (mOp fIx (mVar 1) (mC (.int 1))) (mOp fPow (mC (.int 10)) (mC (.int 20))))))) (mSeq (mSet 3 (mOp fAdd (mC (.int 1)) (mCall 2 m_law_big (mCons (mVar 0) (mCons (mC (.int 19)) mNil)))))
  (mRet (mCall 2 m_law_lowest (mCons (mOp fAdd (mOp fMul (mOp fIx (mVar 1) (mC (.int 0))) (mVar 3)) (mCall 2 m_law_signed (mCons (mVar 0) (mCons (mC (.int 1)) mNil)))) (mCons (mOp fMul (mOp fIx (mVar 1) (mC (.int 1))) (mVar 3)) mNil))))) mNext)
  (mSeq (mIfS (mAnd (mTest (mOp (fEq false) (mVar 2) (mC (.int 4)))) (mTest (mOp (fEq true) (mOp fIx (mVar 1) (mC (.int 0))) (mC (.int 0))))) (mRet (mCall 2 m_law_lowest (mCons (mOp fIx (mVar 1) (mC (.int 1))) (mCons (mOp fIx (mVar 1) (mC (.int 0))) mNil)))) mNext)
  (mSeq (mIfS (mTest (mOp (fEq false) (mVar 2) (mC (.int 5)))) (mRet (mTup (mCons (mCall 2 m_law_signed (mCons (mVar 0) (mCons (mCall 2 m_law_big (mCons (mVar 0) (mCons (mC (.int 40)) mNil))) mNil))) (mCons (mC (.int 1)) mNil)))) mNext)
  (mSeq (mSet 4 (mCall 1 m_law_fraction (mCons (mVar 0) mNil)))
  (mRet (mCall 2 m_law_lowest (mCons (mOp fIx (mVar 4) (mC (.int 0))) (mCons (mOp fIx (mVar 4) (mC (.int 1))) mNil)))))))))))
def m_law_other : List D → M D := mFn 5 m_law_other_b

def m_law_deeds_b : MS :=
  (mSeq (mSet 2 (mOp fMul (mOp fIx (mVar 0) (mC (.int 1))) (mOp fIx (mVar 1) (mC (.int 1)))))
  (mSeq (mIfS (mNot (mTest (mCall 3 m_law_stands (mCons (mCall 2 m_plus (mCons (mVar 0) (mCons (mVar 1) mNil))) (mCons (mOp fAdd (mOp fMul (mOp fIx (mVar 0) (mC (.int 0))) (mOp fIx (mVar 1) (mC (.int 1)))) (mOp fMul (mOp fIx (mVar 1) (mC (.int 0))) (mOp fIx (mVar 0) (mC (.int 1))))) (mCons (mVar 2) mNil)))))) (mRet (mC (.bl false))) mNext)
  (mSeq (mIfS (mNot (mTest (mCall 3 m_law_stands (mCons (mCall 2 m_minus (mCons (mVar 0) (mCons (mVar 1) mNil))) (mCons (mOp fSub (mOp fMul (mOp fIx (mVar 0) (mC (.int 0))) (mOp fIx (mVar 1) (mC (.int 1)))) (mOp fMul (mOp fIx (mVar 1) (mC (.int 0))) (mOp fIx (mVar 0) (mC (.int 1))))) (mCons (mVar 2) mNil)))))) (mRet (mC (.bl false))) mNext)
  (mSeq (mIfS (mNot (mTest (mCall 3 m_law_stands (mCons (mCall 2 m_times (mCons (mVar 0) (mCons (mVar 1) mNil))) (mCons (mOp fMul (mOp fIx (mVar 0) (mC (.int 0))) (mOp fIx (mVar 1) (mC (.int 0)))) (mCons (mVar 2) mNil)))))) (mRet (mC (.bl false))) mNext)
  (mSeq (mIfS (mAnd (mTest (mOp (fEq true) (mOp fIx (mVar 1) (mC (.int 0))) (mC (.int 0)))) (mNot (mTest (mCall 3 m_law_stands (mCons (mCall 2 m_over (mCons (mVar 0) (mCons (mVar 1) mNil))) (mCons (mOp fMul (mOp fIx (mVar 0) (mC (.int 0))) (mOp fIx (mVar 1) (mC (.int 1)))) (mCons (mOp fMul (mOp fIx (mVar 0) (mC (.int 1))) (mOp fIx (mVar 1) (mC (.int 0)))) mNil))))))) (mRet (mC (.bl false))) mNext)
  (mRet (mCall 2 m_law_less (mCons (mVar 0) (mCons (mVar 1) mNil)))))))))
def m_law_deeds : List D → M D := mFn 3 m_law_deeds_b

def m_law_b : MS :=
  (mSeq (mSet 1 (mCall 1 m_law_fraction (mCons (mCall 2 m_law_state (mCons (mVar 0) (mCons (mC (.int 0)) mNil))) mNil)))
  (mSeq (mSet 2 (mCall 2 m_ratio (mCons (mOp fIx (mVar 1) (mC (.int 0))) (mCons (mOp fIx (mVar 1) (mC (.int 1))) mNil))))
  (mSeq (mIfS (mNot (mTest (mCall 3 m_law_stands (mCons (mVar 2) (mCons (mOp fIx (mVar 1) (mC (.int 0))) (mCons (mOp fIx (mVar 1) (mC (.int 1))) mNil)))))) (mRet (mC (.bl false))) mNext)
  (mSeq (mSet 3 (mCall 2 m_law_lowest (mCons (mOp fIx (mVar 1) (mC (.int 0))) (mCons (mOp fIx (mVar 1) (mC (.int 1))) mNil))))
  (mSeq (mSet 4 (mCall 2 m_law_other (mCons (mCall 2 m_law_state (mCons (mVar 0) (mCons (mC (.int 1)) mNil))) (mCons (mVar 3) mNil))))
  (mSeq (mIfS (mOr (mNot (mTest (mCall 2 m_law_deeds (mCons (mVar 3) (mCons (mVar 4) mNil))))) (mNot (mTest (mCall 2 m_law_deeds (mCons (mVar 4) (mCons (mVar 3) mNil)))))) (mRet (mC (.bl false))) mNext)
  (mSeq (mIfS (mOr (mNot (mTest (mCall 2 m_law_less (mCons (mVar 3) (mCons (mVar 3) mNil))))) (mNot (mTest (mCall 2 m_law_deeds (mCons (mVar 3) (mCons (mVar 3) mNil)))))) (mRet (mC (.bl false))) mNext)
  (mSeq (mSet 5 (mCall 2 m_ratio (mCons (mOp fIx (mVar 1) (mC (.int 0))) (mCons (mOp fIx (mVar 1) (mC (.int 1))) mNil))))
  (mRet (mAndV (mCall 3 m_law_stands (mCons (mVar 5) (mCons (mOp fIx (mVar 1) (mC (.int 0))) (mCons (mOp fIx (mVar 1) (mC (.int 1))) mNil)))) (mOp (fEq false) (mVar 5) (mVar 2))))))))))))
def m_law : List D → M D := mFn 6 m_law_b

end K27

/-! derivations, printed by gen.py -/
namespace K27
open PySem PySem.Spec PyProof.Rows L2 G

def topS (i : Nat) : Stmt := PySem.Challenge.pw_roomsfit_k27_ratios.main.body.getD i (.Pass ⟨0, 0, 0, 0⟩)

abbrev s_ratio : Stmt := topS 2
abbrev N_ratio : List PySem.Str := ["p", "q", "common"]
theorem sc_ratio : FnScope N_ratio ["p", "q"] (defScope s_ratio) := ⟨rfl, rfl, rfl, by decide +kernel, rfl, by decide +kernel, by decide +kernel⟩
theorem ok_ratio {P : Program} {w : World} {K : PySem.W.Frag} {cls : Nat → Addr} {mg : PySem.Str → Option Value} {base : Heap} (F : Df K mg "ratio" s_ratio) (mf_gcd : mg "gcd" = some (.builtin "math.gcd")) : Fn P w K cls mg base "ratio" 1 m_ratio 2 := by
  exact df_ok (N := N_ratio) (ps := ["p", "q"]) (m := m_ratio_b) F sc_ratio rfl rfl (fun _ _ _ _ _ _ us hl => match us, hl with | [_, _], _ => rfl) (fun f cdv A outer s H E hr => ⟨_,
    (pss_cons (ps_set (i := 2) sc_ratio.nd rfl (Or.inl rfl) (pe_callBfun cr_gcd (by rfl) mf_gcd (pa_cons (pv 0) (pa_cons (pv 1) pa_nil))))
      (pss_cons (ps_if (pt_cmpR op_lt (pv 1) pe_int (nomark _)) (pss_one (ps_set (i := 2) sc_ratio.nd rfl (Or.inl rfl) (pe_un un_neg (pv 2)))) pss_nil)
      (pss_one (ps_ret (pe_tup (pa_cons (pe_op op_divU (pv 0) (pv 2)) (pa_cons (pe_op op_divU (pv 1) (pv 2)) pa_nil))))))),
    (s_seq (s_set (e_call c_gcd (a_cons (e_var 0) (a_cons (e_var 1) a_nil))))
      (s_seq (s_if (t_test (e_op (o_cmp fun i j => decide (i < j)) (e_var 1) (e_int 0))) (s_set (e_un u_neg (e_var 2))) s_next)
      (s_ret (e_tup (a_cons (e_op o_div (e_var 0) (e_var 2)) (a_cons (e_op o_div (e_var 1) (e_var 2)) a_nil))))))⟩)

abbrev s_below : Stmt := topS 7
abbrev N_below : List PySem.Str := ["a", "b"]
theorem sc_below : FnScope N_below ["a", "b"] (defScope s_below) := ⟨rfl, rfl, rfl, by decide +kernel, rfl, by decide +kernel, by decide +kernel⟩
theorem ok_below {P : Program} {w : World} {K : PySem.W.Frag} {cls : Nat → Addr} {mg : PySem.Str → Option Value} {base : Heap} (F : Df K mg "below" s_below) : Fn P w K cls mg base "below" 1 m_below 2 := by
  exact df_ok (N := N_below) (ps := ["a", "b"]) (m := m_below_b) F sc_below rfl rfl (fun _ _ _ _ _ _ us hl => match us, hl with | [_, _], _ => rfl) (fun f cdv A outer s H E hr => ⟨_,
    (pss_one (ps_ret (pe_cmpR op_lt (pe_op op_mulU (pe_ix ix_seq (pv 0) pe_int (fun _ _ => rfl)) (pe_ix ix_seq (pv 1) pe_int (fun _ _ => rfl))) (pe_op op_mulU (pe_ix ix_seq (pv 1) pe_int (fun _ _ => rfl)) (pe_ix ix_seq (pv 0) pe_int (fun _ _ => rfl))) (nomark _)))),
    (s_ret (e_op (o_cmp fun i j => decide (i < j)) (e_op o_mul (e_op o_ix (e_var 0) (e_int 0)) (e_op o_ix (e_var 1) (e_int 1))) (e_op o_mul (e_op o_ix (e_var 1) (e_int 0)) (e_op o_ix (e_var 0) (e_int 1)))))⟩)

abbrev s_law_int : Stmt := topS 9
abbrev N_law_int : List PySem.Str := ["value"]
theorem sc_law_int : FnScope N_law_int ["value"] (defScope s_law_int) := ⟨rfl, rfl, rfl, by decide +kernel, rfl, by decide +kernel, by decide +kernel⟩
theorem ok_law_int {P : Program} {w : World} {K : PySem.W.Frag} {cls : Nat → Addr} {mg : PySem.Str → Option Value} {base : Heap} (F : Df K mg "_law_int" s_law_int) (z_isinstance : mg "isinstance" = none) (z_int : mg "int" = none) (z_bool : mg "bool" = none) : Fn P w K cls mg base "_law_int" 1 m_law_int 1 := by
  exact df_ok (N := N_law_int) (ps := ["value"]) (m := m_law_int_b) F sc_law_int rfl rfl (fun _ _ _ _ _ _ us hl => match us, hl with | [_], _ => rfl) (fun f cdv A outer s H E hr => ⟨_,
    (pss_one (ps_ret (pe_and (pe_callB call_isi (by rfl) z_isinstance (by decide +kernel) (pa_cons (pv 0) (pa_cons (pe_bltn (v := .ty "int") (by rfl) z_int (by decide +kernel) rfl) pa_nil))) (pe_one (pe_not (pe_callB call_isi (by rfl) z_isinstance (by decide +kernel) (pa_cons (pv 0) (pa_cons (pe_bltn (v := .ty "bool") (by rfl) z_bool (by decide +kernel) rfl) pa_nil)))))))),
    (s_ret (e_and (e_call c_isi (a_cons (e_var 0) (a_cons (e_ty _) a_nil))) (e_not (e_call c_isi (a_cons (e_var 0) (a_cons (e_ty _) a_nil))))))⟩)

abbrev s_law_state : Stmt := topS 11
abbrev N_law_state : List PySem.Str := ["script", "k", "cell", "other"]
theorem sc_law_state : FnScope N_law_state ["script", "k"] (defScope s_law_state) := ⟨rfl, rfl, rfl, by decide +kernel, rfl, by decide +kernel, by decide +kernel⟩
theorem ok_law_state {P : Program} {w : World} {K : PySem.W.Frag} {cls : Nat → Addr} {mg : PySem.Str → Option Value} {base : Heap} (F : Df K mg "_law_state" s_law_state) (z_len : mg "len" = none) (z_int : mg "int" = none) (z_abs : mg "abs" = none) : Fn P w K cls mg base "_law_state" 1 m_law_state 2 := by
  exact df_ok (N := N_law_state) (ps := ["script", "k"]) (m := m_law_state_b) F sc_law_state rfl rfl (fun _ _ _ _ _ _ us hl => match us, hl with | [_, _], _ => rfl) (fun f cdv A outer s H E hr => ⟨_,
    (pss_cons (ps_set (i := 2) sc_law_state.nd rfl (Or.inl rfl) pe_int)
      (pss_cons (ps_if (pt_cmpR op_lt (pv 1) (pe_callB cr_len (by rfl) z_len (by decide +kernel) (pa_cons (pv 0) pa_nil)) (nomark _)) (pss_one (ps_set (i := 2) sc_law_state.nd rfl (Or.inl rfl) (pe_callB cr_abs (by rfl) z_abs (by decide +kernel) (pa_cons (pe_callTy cr_int (by rfl) z_int (by decide +kernel) (pa_cons (pe_ix ix_seq (pv 0) (pv 1) (fun _ _ => rfl)) pa_nil)) pa_nil)))) pss_nil)
      (pss_cons (ps_if (pt_cmpR op_ge (pv 2) pe_int (nomark _)) (pss_one (ps_ret (pe_lst (pa_cons (pv 2) (pa_cons pe_int (pa_cons pe_int pa_nil)))))) pss_nil)
      (pss_cons (ps_for PassesOwn.never rfl (pi_seq (pe_slice sl_list (pv 0) po_none (po_some pe_int))) (pg_name (i := 3) sc_law_state.nd rfl (Or.inl rfl)) (pss_one (ps_set (i := 2) sc_law_state.nd rfl (Or.inl rfl) (pe_op op_modN (pe_callTy cr_int (by rfl) z_int (by decide +kernel) (pa_cons (pe_op op_addU (pe_op op_addU (pe_op op_mulU (pv 2) pe_int) (pe_callB cr_abs (by rfl) z_abs (by decide +kernel) (pa_cons (pe_callTy cr_int (by rfl) z_int (by decide +kernel) (pa_cons (pv 3) pa_nil)) pa_nil))) (pv 1)) pa_nil)) pe_int))))
      (pss_one (ps_ret (pe_lst (pa_cons (pe_op op_addU (pv 2) (pe_op op_mulU pe_int (pv 1))) (pa_cons pe_int (pa_cons pe_int pa_nil)))))))))),
    (s_seq (s_set (e_int 0))
      (s_seq (s_if (t_test (e_op (o_cmp fun i j => decide (i < j)) (e_var 1) (e_call c_len (a_cons (e_var 0) a_nil)))) (s_set (e_call c_abs (a_cons (e_call c_int (a_cons (e_op o_ix (e_var 0) (e_var 1)) a_nil)) a_nil))) s_next)
      (s_seq (s_if (t_test (e_op (o_cmp fun i j => decide (j ≤ i)) (e_var 2) (e_int 1000000000000000000))) (s_ret (e_lst (a_cons (e_var 2) (a_cons (e_int 0) (a_cons (e_int 1) a_nil))))) s_next)
      (s_seq (s_for (i_seq (e_slice sl_lst (e_var 0) o_none (o_some (e_int 63)))) (g_name 3) (s_set (e_op o_mod (e_call c_int (a_cons (e_op o_add (e_op o_add (e_op o_mul (e_var 2) (e_int 31)) (e_call c_abs (a_cons (e_call c_int (a_cons (e_var 3) a_nil)) a_nil))) (e_var 1)) a_nil)) (e_int 999999999989))))
      (s_ret (e_lst (a_cons (e_op o_add (e_var 2) (e_op o_mul (e_int 101) (e_var 1))) (a_cons (e_int 0) (a_cons (e_int 0) a_nil)))))))))⟩)

abbrev s_law_next : Stmt := topS 12
abbrev N_law_next : List PySem.Str := ["state", "size", "value", "mixed"]
theorem sc_law_next : FnScope N_law_next ["state", "size"] (defScope s_law_next) := ⟨rfl, rfl, rfl, by decide +kernel, rfl, by decide +kernel, by decide +kernel⟩
theorem ok_law_next {P : Program} {w : World} {K : PySem.W.Frag} {cls : Nat → Addr} {mg : PySem.Str → Option Value} {base : Heap} (F : Df K mg "_law_next" s_law_next) (z_int : mg "int" = none) : Fn P w K cls mg base "_law_next" 1 m_law_next 2 := by
  exact df_ok (N := N_law_next) (ps := ["state", "size"]) (m := m_law_next_b) F sc_law_next rfl rfl (fun _ _ _ _ _ _ us hl => match us, hl with | [_, _], _ => rfl) (fun f cdv A outer s H E hr => ⟨_,
    (pss_cons (ps_asg (pe_op op_addU (pe_ix ix_seq (pv 0) pe_int (fun _ _ => rfl)) pe_int) (pg_sub (pv 0) pe_int set_list))
      (pss_cons (ps_if (PW.pt (pw_and (pt_cmpR (op_eqD hr.units) (pe_ix ix_seq (pv 0) pe_int (fun _ _ => rfl)) pe_int (nomark _)) (pw_and1 (pt_cmpR op_gt (pe_ix ix_seq (pv 0) pe_int (fun _ _ => rfl)) pe_int (nomark _))))) (pss_cons (ps_set (i := 2) sc_law_next.nd rfl (Or.inl rfl) (pe_op op_modN (pe_callTy cr_int (by rfl) z_int (by decide +kernel) (pa_cons (pe_ix ix_seq (pv 0) pe_int (fun _ _ => rfl)) pa_nil)) (pv 1)))
      (pss_cons (ps_asg (pe_op op_divU (pe_callTy cr_int (by rfl) z_int (by decide +kernel) (pa_cons (pe_ix ix_seq (pv 0) pe_int (fun _ _ => rfl)) pa_nil)) (pv 1)) (pg_sub (pv 0) pe_int set_list))
      (pss_one (ps_ret (pv 2))))) pss_nil)
      (pss_cons (ps_set (i := 3) sc_law_next.nd rfl (Or.inl rfl) (pe_op op_modN (pe_callTy cr_int (by rfl) z_int (by decide +kernel) (pa_cons (pe_op op_addU (pe_op op_addU (pe_ix ix_seq (pv 0) pe_int (fun _ _ => rfl)) (pe_op op_mulU pe_int (pe_ix ix_seq (pv 0) pe_int (fun _ _ => rfl)))) pe_int) pa_nil)) pe_int))
      (pss_cons (ps_set (i := 3) sc_law_next.nd rfl (Or.inl rfl) (pe_op op_modN (pe_callTy cr_int (by rfl) z_int (by decide +kernel) (pa_cons (pe_op op_mulU (pv 3) (pe_op op_addU (pv 3) pe_int)) pa_nil)) pe_int))
      (pss_cons (ps_set (i := 3) sc_law_next.nd rfl (Or.inl rfl) (pe_op op_modN (pe_callTy cr_int (by rfl) z_int (by decide +kernel) (pa_cons (pe_op op_addU (pe_op op_mulU (pv 3) (pe_op op_addU (pv 3) pe_int)) (pe_op op_mulU pe_int (pe_ix ix_seq (pv 0) pe_int (fun _ _ => rfl)))) pa_nil)) pe_int))
      (pss_one (ps_ret (pe_op op_modN (pe_callTy cr_int (by rfl) z_int (by decide +kernel) (pa_cons (pe_op op_divU (pv 3) pe_int) pa_nil)) (pv 1))))))))),
    (s_seq (s_setIx (e_op o_add (e_op o_ix (e_var 0) (e_int 1)) (e_int 1)) (e_var 0) (e_int 1))
      (s_seq (s_if (t_and (t_test (e_op o_eq (e_op o_ix (e_var 0) (e_int 2)) (e_int 1))) (t_test (e_op (o_cmp fun i j => decide (j < i)) (e_op o_ix (e_var 0) (e_int 0)) (e_int 0)))) (s_seq (s_set (e_op o_mod (e_call c_int (a_cons (e_op o_ix (e_var 0) (e_int 0)) a_nil)) (e_var 1)))
      (s_seq (s_setIx (e_op o_div (e_call c_int (a_cons (e_op o_ix (e_var 0) (e_int 0)) a_nil)) (e_var 1)) (e_var 0) (e_int 0))
      (s_ret (e_var 2)))) s_next)
      (s_seq (s_set (e_op o_mod (e_call c_int (a_cons (e_op o_add (e_op o_add (e_op o_ix (e_var 0) (e_int 0)) (e_op o_mul (e_int 7919) (e_op o_ix (e_var 0) (e_int 1)))) (e_int 13)) a_nil)) (e_int 2147483647)))
      (s_seq (s_set (e_op o_mod (e_call c_int (a_cons (e_op o_mul (e_var 3) (e_op o_add (e_var 3) (e_int 48271))) a_nil)) (e_int 2147483629)))
      (s_seq (s_set (e_op o_mod (e_call c_int (a_cons (e_op o_add (e_op o_mul (e_var 3) (e_op o_add (e_var 3) (e_int 69621))) (e_op o_mul (e_int 31) (e_op o_ix (e_var 0) (e_int 1)))) a_nil)) (e_int 2147483647)))
      (s_ret (e_op o_mod (e_call c_int (a_cons (e_op o_div (e_var 3) (e_int 9)) a_nil)) (e_var 1))))))))⟩)

abbrev s_law_common : Stmt := topS 15
abbrev N_law_common : List PySem.Str := ["a", "b", "turn", "rest"]
theorem sc_law_common : FnScope N_law_common ["a", "b"] (defScope s_law_common) := ⟨rfl, rfl, rfl, by decide +kernel, rfl, by decide +kernel, by decide +kernel⟩
theorem ok_law_common {P : Program} {w : World} {K : PySem.W.Frag} {cls : Nat → Addr} {mg : PySem.Str → Option Value} {base : Heap} (F : Df K mg "_law_common" s_law_common) (z_range : mg "range" = none) (z_int : mg "int" = none) : Fn P w K cls mg base "_law_common" 1 m_law_common 2 := by
  exact df_ok (N := N_law_common) (ps := ["a", "b"]) (m := m_law_common_b) F sc_law_common rfl rfl (fun _ _ _ _ _ _ us hl => match us, hl with | [_, _], _ => rfl) (fun f cdv A outer s H E hr => ⟨_,
    (pss_cons (ps_for PassesOwn.never rfl (pi_range1 (by rfl) z_range (pa_cons pe_int pa_nil)) (pg_name (i := 2) sc_law_common.nd rfl (Or.inl rfl)) (pss_cons (ps_if (pt_cmpR (op_eqD hr.units) (pv 1) pe_int (nomark _)) (pss_one (ps_ret (pv 0))) pss_nil)
      (pss_cons (ps_set (i := 3) sc_law_common.nd rfl (Or.inl rfl) (pe_op op_modN (pe_callTy cr_int (by rfl) z_int (by decide +kernel) (pa_cons (pv 0) pa_nil)) (pv 1)))
      (pss_cons (ps_set (i := 0) sc_law_common.nd rfl (Or.inl rfl) (pv 1))
      (pss_one (ps_set (i := 1) sc_law_common.nd rfl (Or.inl rfl) (pv 3)))))))
      (pss_one (ps_ret pe_int))),
    (s_seq (s_for (i_rng1 (a_cons (e_int 500) a_nil)) (g_name 2) (s_seq (s_if (t_test (e_op o_eq (e_var 1) (e_int 0))) (s_ret (e_var 0)) s_next)
      (s_seq (s_set (e_op o_mod (e_call c_int (a_cons (e_var 0) a_nil)) (e_var 1)))
      (s_seq (s_set (e_var 1))
      (s_set (e_var 3))))))
      (s_ret (e_int 0)))⟩)

abbrev s_plus : Stmt := topS 3
abbrev N_plus : List PySem.Str := ["a", "b"]
theorem sc_plus : FnScope N_plus ["a", "b"] (defScope s_plus) := ⟨rfl, rfl, rfl, by decide +kernel, rfl, by decide +kernel, by decide +kernel⟩
theorem ok_plus {P : Program} {w : World} {K : PySem.W.Frag} {cls : Nat → Addr} {mg : PySem.Str → Option Value} {base : Heap} (F : Df K mg "plus" s_plus) (h_ratio : Fn P w K cls mg base "ratio" 1 m_ratio 2) : Fn P w K cls mg base "plus" 2 m_plus 2 := by
  obtain ⟨a_ratio, fd_ratio, ps_ratio, G_ratio, g_ratio, kp_ratio, b_ratio⟩ := h_ratio.ex
  exact df_ok (N := N_plus) (ps := ["a", "b"]) (m := m_plus_b) F sc_plus rfl rfl (fun _ _ _ _ _ _ us hl => match us, hl with | [_, _], _ => rfl) (fun f cdv A outer s H E hr => ⟨_,
    (pss_one (ps_ret (pe_call G_ratio (hr.mono (by decide)) (by rfl) g_ratio kp_ratio b_ratio .nil pass0 (pa_cons (pe_op op_addU (pe_op op_mulU (pe_ix ix_seq (pv 0) pe_int (fun _ _ => rfl)) (pe_ix ix_seq (pv 1) pe_int (fun _ _ => rfl))) (pe_op op_mulU (pe_ix ix_seq (pv 1) pe_int (fun _ _ => rfl)) (pe_ix ix_seq (pv 0) pe_int (fun _ _ => rfl)))) (pa_cons (pe_op op_mulU (pe_ix ix_seq (pv 0) pe_int (fun _ _ => rfl)) (pe_ix ix_seq (pv 1) pe_int (fun _ _ => rfl))) pa_nil))))),
    (s_ret (e_own (a_cons (e_op o_add (e_op o_mul (e_op o_ix (e_var 0) (e_int 0)) (e_op o_ix (e_var 1) (e_int 1))) (e_op o_mul (e_op o_ix (e_var 1) (e_int 0)) (e_op o_ix (e_var 0) (e_int 1)))) (a_cons (e_op o_mul (e_op o_ix (e_var 0) (e_int 1)) (e_op o_ix (e_var 1) (e_int 1))) a_nil))))⟩)

abbrev s_minus : Stmt := topS 4
abbrev N_minus : List PySem.Str := ["a", "b"]
theorem sc_minus : FnScope N_minus ["a", "b"] (defScope s_minus) := ⟨rfl, rfl, rfl, by decide +kernel, rfl, by decide +kernel, by decide +kernel⟩
theorem ok_minus {P : Program} {w : World} {K : PySem.W.Frag} {cls : Nat → Addr} {mg : PySem.Str → Option Value} {base : Heap} (F : Df K mg "minus" s_minus) (h_ratio : Fn P w K cls mg base "ratio" 1 m_ratio 2) : Fn P w K cls mg base "minus" 2 m_minus 2 := by
  obtain ⟨a_ratio, fd_ratio, ps_ratio, G_ratio, g_ratio, kp_ratio, b_ratio⟩ := h_ratio.ex
  exact df_ok (N := N_minus) (ps := ["a", "b"]) (m := m_minus_b) F sc_minus rfl rfl (fun _ _ _ _ _ _ us hl => match us, hl with | [_, _], _ => rfl) (fun f cdv A outer s H E hr => ⟨_,
    (pss_one (ps_ret (pe_call G_ratio (hr.mono (by decide)) (by rfl) g_ratio kp_ratio b_ratio .nil pass0 (pa_cons (pe_op op_sub (pe_op op_mulU (pe_ix ix_seq (pv 0) pe_int (fun _ _ => rfl)) (pe_ix ix_seq (pv 1) pe_int (fun _ _ => rfl))) (pe_op op_mulU (pe_ix ix_seq (pv 1) pe_int (fun _ _ => rfl)) (pe_ix ix_seq (pv 0) pe_int (fun _ _ => rfl)))) (pa_cons (pe_op op_mulU (pe_ix ix_seq (pv 0) pe_int (fun _ _ => rfl)) (pe_ix ix_seq (pv 1) pe_int (fun _ _ => rfl))) pa_nil))))),
    (s_ret (e_own (a_cons (e_op o_sub (e_op o_mul (e_op o_ix (e_var 0) (e_int 0)) (e_op o_ix (e_var 1) (e_int 1))) (e_op o_mul (e_op o_ix (e_var 1) (e_int 0)) (e_op o_ix (e_var 0) (e_int 1)))) (a_cons (e_op o_mul (e_op o_ix (e_var 0) (e_int 1)) (e_op o_ix (e_var 1) (e_int 1))) a_nil))))⟩)

abbrev s_times : Stmt := topS 5
abbrev N_times : List PySem.Str := ["a", "b"]
theorem sc_times : FnScope N_times ["a", "b"] (defScope s_times) := ⟨rfl, rfl, rfl, by decide +kernel, rfl, by decide +kernel, by decide +kernel⟩
theorem ok_times {P : Program} {w : World} {K : PySem.W.Frag} {cls : Nat → Addr} {mg : PySem.Str → Option Value} {base : Heap} (F : Df K mg "times" s_times) (h_ratio : Fn P w K cls mg base "ratio" 1 m_ratio 2) : Fn P w K cls mg base "times" 2 m_times 2 := by
  obtain ⟨a_ratio, fd_ratio, ps_ratio, G_ratio, g_ratio, kp_ratio, b_ratio⟩ := h_ratio.ex
  exact df_ok (N := N_times) (ps := ["a", "b"]) (m := m_times_b) F sc_times rfl rfl (fun _ _ _ _ _ _ us hl => match us, hl with | [_, _], _ => rfl) (fun f cdv A outer s H E hr => ⟨_,
    (pss_one (ps_ret (pe_call G_ratio (hr.mono (by decide)) (by rfl) g_ratio kp_ratio b_ratio .nil pass0 (pa_cons (pe_op op_mulU (pe_ix ix_seq (pv 0) pe_int (fun _ _ => rfl)) (pe_ix ix_seq (pv 1) pe_int (fun _ _ => rfl))) (pa_cons (pe_op op_mulU (pe_ix ix_seq (pv 0) pe_int (fun _ _ => rfl)) (pe_ix ix_seq (pv 1) pe_int (fun _ _ => rfl))) pa_nil))))),
    (s_ret (e_own (a_cons (e_op o_mul (e_op o_ix (e_var 0) (e_int 0)) (e_op o_ix (e_var 1) (e_int 0))) (a_cons (e_op o_mul (e_op o_ix (e_var 0) (e_int 1)) (e_op o_ix (e_var 1) (e_int 1))) a_nil))))⟩)

abbrev s_over : Stmt := topS 6
abbrev N_over : List PySem.Str := ["a", "b"]
theorem sc_over : FnScope N_over ["a", "b"] (defScope s_over) := ⟨rfl, rfl, rfl, by decide +kernel, rfl, by decide +kernel, by decide +kernel⟩
theorem ok_over {P : Program} {w : World} {K : PySem.W.Frag} {cls : Nat → Addr} {mg : PySem.Str → Option Value} {base : Heap} (F : Df K mg "over" s_over) (h_ratio : Fn P w K cls mg base "ratio" 1 m_ratio 2) : Fn P w K cls mg base "over" 2 m_over 2 := by
  obtain ⟨a_ratio, fd_ratio, ps_ratio, G_ratio, g_ratio, kp_ratio, b_ratio⟩ := h_ratio.ex
  exact df_ok (N := N_over) (ps := ["a", "b"]) (m := m_over_b) F sc_over rfl rfl (fun _ _ _ _ _ _ us hl => match us, hl with | [_, _], _ => rfl) (fun f cdv A outer s H E hr => ⟨_,
    (pss_one (ps_ret (pe_call G_ratio (hr.mono (by decide)) (by rfl) g_ratio kp_ratio b_ratio .nil pass0 (pa_cons (pe_op op_mulU (pe_ix ix_seq (pv 0) pe_int (fun _ _ => rfl)) (pe_ix ix_seq (pv 1) pe_int (fun _ _ => rfl))) (pa_cons (pe_op op_mulU (pe_ix ix_seq (pv 0) pe_int (fun _ _ => rfl)) (pe_ix ix_seq (pv 1) pe_int (fun _ _ => rfl))) pa_nil))))),
    (s_ret (e_own (a_cons (e_op o_mul (e_op o_ix (e_var 0) (e_int 0)) (e_op o_ix (e_var 1) (e_int 1))) (a_cons (e_op o_mul (e_op o_ix (e_var 0) (e_int 1)) (e_op o_ix (e_var 1) (e_int 0))) a_nil))))⟩)

abbrev s_law_ints : Stmt := topS 10
abbrev N_law_ints : List PySem.Str := ["value", "x"]
theorem sc_law_ints : FnScope N_law_ints ["value"] (defScope s_law_ints) := ⟨rfl, rfl, rfl, by decide +kernel, rfl, by decide +kernel, by decide +kernel⟩
theorem ok_law_ints {P : Program} {w : World} {K : PySem.W.Frag} {cls : Nat → Addr} {mg : PySem.Str → Option Value} {base : Heap} (F : Df K mg "_law_ints" s_law_ints) (z_isinstance : mg "isinstance" = none) (z_list : mg "list" = none) (z_len : mg "len" = none) (h_law_int : Fn P w K cls mg base "_law_int" 1 m_law_int 1) : Fn P w K cls mg base "_law_ints" 2 m_law_ints 1 := by
  obtain ⟨a_law_int, fd_law_int, ps_law_int, G_law_int, g_law_int, kp_law_int, b_law_int⟩ := h_law_int.ex
  exact df_ok (N := N_law_ints) (ps := ["value"]) (m := m_law_ints_b) F sc_law_ints rfl rfl (fun _ _ _ _ _ _ us hl => match us, hl with | [_], _ => rfl) (fun f cdv A outer s H E hr => ⟨_,
    (pss_cons (ps_if (pt_not (pt_val (pe_callB call_isi (by rfl) z_isinstance (by decide +kernel) (pa_cons (pv 0) (pa_cons (pe_bltn (v := .ty "list") (by rfl) z_list (by decide +kernel) rfl) pa_nil))))) (pss_one (ps_ret pe_bl)) pss_nil)
      (pss_one (ps_ret (pe_cmpR (op_eqD hr.units) (pe_callB cr_len (by rfl) z_len (by decide +kernel) (pa_cons (pe_lc (own := [("x", 1)]) rfl sc_law_ints.nd (pi_seq (pv 0)) (blkOk_by (own := [("x", 1)]) (N := N_law_ints) (sc := defScope s_law_ints) (by decide +kernel)) (fun _ _ _ _ _ => (pg_name (i := 1) sc_law_ints.nd rfl (Or.inl rfl))) (fun _ _ _ _ _ => (pts_one (pt_not (pt_val (pe_call G_law_int (hr.mono (by decide)) (by rfl) g_law_int kp_law_int b_law_int .nil pass0 (pa_cons (pv 1) pa_nil)))))) (fun _ _ _ _ _ => (pv 1))) pa_nil)) pe_int (nomark _))))),
    (s_seq (s_if (t_not (t_B (e_call c_isi (a_cons (e_var 0) (a_cons (e_ty _) a_nil))))) (s_ret (e_bl false)) s_next)
      (s_ret (e_op o_eq (e_call c_len (a_cons (e_lc (i_seq (e_var 0)) (g_name 1) (t_not (t_B (e_own (a_cons (e_var 1) a_nil)))) (e_var 1) (gw_name (by decide))) a_nil)) (e_int 0))))⟩)

abbrev s_law_big : Stmt := topS 13
abbrev N_law_big : List PySem.Str := ["state", "most", "value", "k"]
theorem sc_law_big : FnScope N_law_big ["state", "most"] (defScope s_law_big) := ⟨rfl, rfl, rfl, by decide +kernel, rfl, by decide +kernel, by decide +kernel⟩
theorem ok_law_big {P : Program} {w : World} {K : PySem.W.Frag} {cls : Nat → Addr} {mg : PySem.Str → Option Value} {base : Heap} (F : Df K mg "_law_big" s_law_big) (z_range : mg "range" = none) (h_law_next : Fn P w K cls mg base "_law_next" 1 m_law_next 2) : Fn P w K cls mg base "_law_big" 2 m_law_big 2 := by
  obtain ⟨a_law_next, fd_law_next, ps_law_next, G_law_next, g_law_next, kp_law_next, b_law_next⟩ := h_law_next.ex
  exact df_ok (N := N_law_big) (ps := ["state", "most"]) (m := m_law_big_b) F sc_law_big rfl rfl (fun _ _ _ _ _ _ us hl => match us, hl with | [_, _], _ => rfl) (fun f cdv A outer s H E hr => ⟨_,
    (pss_cons (ps_set (i := 2) sc_law_big.nd rfl (Or.inl rfl) pe_int)
      (pss_cons (ps_for PassesOwn.never rfl (pi_range1 (by rfl) z_range (pa_cons (pe_op op_addU pe_int (pe_call G_law_next (hr.mono (by decide)) (by rfl) g_law_next kp_law_next b_law_next .nil pass0 (pa_cons (pv 0) (pa_cons (pv 1) pa_nil)))) pa_nil)) (pg_name (i := 3) sc_law_big.nd rfl (Or.inl rfl)) (pss_one (ps_set (i := 2) sc_law_big.nd rfl (Or.inl rfl) (pe_op op_addU (pe_op op_mulU (pv 2) pe_int) (pe_call G_law_next (hr.mono (by decide)) (by rfl) g_law_next kp_law_next b_law_next .nil pass0 (pa_cons (pv 0) (pa_cons pe_int pa_nil)))))))
      (pss_one (ps_ret (pv 2))))),
    (s_seq (s_set (e_int 0))
      (s_seq (s_for (i_rng1 (a_cons (e_op o_add (e_int 1) (e_own (a_cons (e_var 0) (a_cons (e_var 1) a_nil)))) a_nil)) (g_name 3) (s_set (e_op o_add (e_op o_mul (e_var 2) (e_int 10)) (e_own (a_cons (e_var 0) (a_cons (e_int 10) a_nil))))))
      (s_ret (e_var 2))))⟩)

abbrev s_law_signed : Stmt := topS 14
abbrev N_law_signed : List PySem.Str := ["state", "value"]
theorem sc_law_signed : FnScope N_law_signed ["state", "value"] (defScope s_law_signed) := ⟨rfl, rfl, rfl, by decide +kernel, rfl, by decide +kernel, by decide +kernel⟩
theorem ok_law_signed {P : Program} {w : World} {K : PySem.W.Frag} {cls : Nat → Addr} {mg : PySem.Str → Option Value} {base : Heap} (F : Df K mg "_law_signed" s_law_signed) (h_law_next : Fn P w K cls mg base "_law_next" 1 m_law_next 2) : Fn P w K cls mg base "_law_signed" 2 m_law_signed 2 := by
  obtain ⟨a_law_next, fd_law_next, ps_law_next, G_law_next, g_law_next, kp_law_next, b_law_next⟩ := h_law_next.ex
  exact df_ok (N := N_law_signed) (ps := ["state", "value"]) (m := m_law_signed_b) F sc_law_signed rfl rfl (fun _ _ _ _ _ _ us hl => match us, hl with | [_, _], _ => rfl) (fun f cdv A outer s H E hr => ⟨_,
    (pss_cons (ps_if (pt_cmpR (op_eqD hr.units) (pe_call G_law_next (hr.mono (by decide)) (by rfl) g_law_next kp_law_next b_law_next .nil pass0 (pa_cons (pv 0) (pa_cons pe_int pa_nil))) pe_int (nomark _)) (pss_one (ps_ret (pe_op op_sub pe_int (pv 1)))) pss_nil)
      (pss_one (ps_ret (pv 1)))),
    (s_seq (s_if (t_test (e_op o_eq (e_own (a_cons (e_var 0) (a_cons (e_int 2) a_nil))) (e_int 1))) (s_ret (e_op o_sub (e_int 0) (e_var 1))) s_next)
      (s_ret (e_var 1)))⟩)

abbrev s_law_lowest : Stmt := topS 16
abbrev N_law_lowest : List PySem.Str := ["p", "q", "common"]
theorem sc_law_lowest : FnScope N_law_lowest ["p", "q"] (defScope s_law_lowest) := ⟨rfl, rfl, rfl, by decide +kernel, rfl, by decide +kernel, by decide +kernel⟩
theorem ok_law_lowest {P : Program} {w : World} {K : PySem.W.Frag} {cls : Nat → Addr} {mg : PySem.Str → Option Value} {base : Heap} (F : Df K mg "_law_lowest" s_law_lowest) (z_abs : mg "abs" = none) (h_law_common : Fn P w K cls mg base "_law_common" 1 m_law_common 2) : Fn P w K cls mg base "_law_lowest" 2 m_law_lowest 2 := by
  obtain ⟨a_law_common, fd_law_common, ps_law_common, G_law_common, g_law_common, kp_law_common, b_law_common⟩ := h_law_common.ex
  exact df_ok (N := N_law_lowest) (ps := ["p", "q"]) (m := m_law_lowest_b) F sc_law_lowest rfl rfl (fun _ _ _ _ _ _ us hl => match us, hl with | [_, _], _ => rfl) (fun f cdv A outer s H E hr => ⟨_,
    (pss_cons (ps_set (i := 2) sc_law_lowest.nd rfl (Or.inl rfl) (pe_call G_law_common (hr.mono (by decide)) (by rfl) g_law_common kp_law_common b_law_common .nil pass0 (pa_cons (pe_callB cr_abs (by rfl) z_abs (by decide +kernel) (pa_cons (pv 0) pa_nil)) (pa_cons (pe_callB cr_abs (by rfl) z_abs (by decide +kernel) (pa_cons (pv 1) pa_nil)) pa_nil))))
      (pss_cons (ps_if (pt_cmpR op_lt (pv 1) pe_int (nomark _)) (pss_one (ps_ret (pe_tup (pa_cons (pe_op op_sub pe_int (pe_op op_divU (pv 0) (pv 2))) (pa_cons (pe_op op_sub pe_int (pe_op op_divU (pv 1) (pv 2))) pa_nil))))) pss_nil)
      (pss_one (ps_ret (pe_tup (pa_cons (pe_op op_divU (pv 0) (pv 2)) (pa_cons (pe_op op_divU (pv 1) (pv 2)) pa_nil))))))),
    (s_seq (s_set (e_own (a_cons (e_call c_abs (a_cons (e_var 0) a_nil)) (a_cons (e_call c_abs (a_cons (e_var 1) a_nil)) a_nil))))
      (s_seq (s_if (t_test (e_op (o_cmp fun i j => decide (i < j)) (e_var 1) (e_int 0))) (s_ret (e_tup (a_cons (e_op o_sub (e_int 0) (e_op o_div (e_var 0) (e_var 2))) (a_cons (e_op o_sub (e_int 0) (e_op o_div (e_var 1) (e_var 2))) a_nil)))) s_next)
      (s_ret (e_tup (a_cons (e_op o_div (e_var 0) (e_var 2)) (a_cons (e_op o_div (e_var 1) (e_var 2)) a_nil))))))⟩)

abbrev s_law_less : Stmt := topS 20
abbrev N_law_less : List PySem.Str := ["a", "b"]
theorem sc_law_less : FnScope N_law_less ["a", "b"] (defScope s_law_less) := ⟨rfl, rfl, rfl, by decide +kernel, rfl, by decide +kernel, by decide +kernel⟩
theorem ok_law_less {P : Program} {w : World} {K : PySem.W.Frag} {cls : Nat → Addr} {mg : PySem.Str → Option Value} {base : Heap} (F : Df K mg "_law_less" s_law_less) (h_below : Fn P w K cls mg base "below" 1 m_below 2) : Fn P w K cls mg base "_law_less" 2 m_law_less 2 := by
  obtain ⟨a_below, fd_below, ps_below, G_below, g_below, kp_below, b_below⟩ := h_below.ex
  exact df_ok (N := N_law_less) (ps := ["a", "b"]) (m := m_law_less_b) F sc_law_less rfl rfl (fun _ _ _ _ _ _ us hl => match us, hl with | [_, _], _ => rfl) (fun f cdv A outer s H E hr => ⟨_,
    (pss_cons (ps_if (pt_cmpR op_lt (pe_op op_mulU (pe_ix ix_seq (pv 0) pe_int (fun _ _ => rfl)) (pe_ix ix_seq (pv 1) pe_int (fun _ _ => rfl))) (pe_op op_mulU (pe_ix ix_seq (pv 1) pe_int (fun _ _ => rfl)) (pe_ix ix_seq (pv 0) pe_int (fun _ _ => rfl))) (nomark _)) (pss_one (ps_ret (pe_cmpR op_isBl (pe_call G_below (hr.mono (by decide)) (by rfl) g_below kp_below b_below .nil pass0 (pa_cons (pv 0) (pa_cons (pv 1) pa_nil))) pe_bl (nomark _)))) pss_nil)
      (pss_one (ps_ret (pe_cmpR op_isBl (pe_call G_below (hr.mono (by decide)) (by rfl) g_below kp_below b_below .nil pass0 (pa_cons (pv 0) (pa_cons (pv 1) pa_nil))) pe_bl (nomark _))))),
    (s_seq (s_if (t_test (e_op (o_cmp fun i j => decide (i < j)) (e_op o_mul (e_op o_ix (e_var 0) (e_int 0)) (e_op o_ix (e_var 1) (e_int 1))) (e_op o_mul (e_op o_ix (e_var 1) (e_int 0)) (e_op o_ix (e_var 0) (e_int 1))))) (s_ret (e_op o_isB (e_own (a_cons (e_var 0) (a_cons (e_var 1) a_nil))) (e_bl true))) s_next)
      (s_ret (e_op o_isB (e_own (a_cons (e_var 0) (a_cons (e_var 1) a_nil))) (e_bl false))))⟩)

abbrev s_law_fraction : Stmt := topS 17
abbrev N_law_fraction : List PySem.Str := ["state", "kind", "factor", "p", "q"]
theorem sc_law_fraction : FnScope N_law_fraction ["state"] (defScope s_law_fraction) := ⟨rfl, rfl, rfl, by decide +kernel, rfl, by decide +kernel, by decide +kernel⟩
theorem ok_law_fraction {P : Program} {w : World} {K : PySem.W.Frag} {cls : Nat → Addr} {mg : PySem.Str → Option Value} {base : Heap} (F : Df K mg "_law_fraction" s_law_fraction) (z_max : mg "max" = none) (h_law_next : Fn P w K cls mg base "_law_next" 1 m_law_next 2) (h_law_big : Fn P w K cls mg base "_law_big" 2 m_law_big 2) (h_law_signed : Fn P w K cls mg base "_law_signed" 2 m_law_signed 2) : Fn P w K cls mg base "_law_fraction" 3 m_law_fraction 1 := by
  obtain ⟨a_law_next, fd_law_next, ps_law_next, G_law_next, g_law_next, kp_law_next, b_law_next⟩ := h_law_next.ex
  obtain ⟨a_law_big, fd_law_big, ps_law_big, G_law_big, g_law_big, kp_law_big, b_law_big⟩ := h_law_big.ex
  obtain ⟨a_law_signed, fd_law_signed, ps_law_signed, G_law_signed, g_law_signed, kp_law_signed, b_law_signed⟩ := h_law_signed.ex
  exact df_ok (N := N_law_fraction) (ps := ["state"]) (m := m_law_fraction_b) F sc_law_fraction rfl rfl (fun _ _ _ _ _ _ us hl => match us, hl with | [_], _ => rfl) (fun f cdv A outer s H E hr => ⟨_,
    (pss_cons (ps_set (i := 1) sc_law_fraction.nd rfl (Or.inl rfl) (pe_call G_law_next (hr.mono (by decide)) (by rfl) g_law_next kp_law_next b_law_next .nil pass0 (pa_cons (pv 0) (pa_cons pe_int pa_nil))))
      (pss_cons (ps_if (pt_cmpR (op_eqD hr.units) (pv 1) pe_int (nomark _)) (pss_cons (ps_set (i := 2) sc_law_fraction.nd rfl (Or.inl rfl) (pe_op op_addU pe_int (pe_call G_law_big (hr.mono (by decide)) (by rfl) g_law_big kp_law_big b_law_big .nil pass0 (pa_cons (pv 0) (pa_cons pe_int pa_nil)))))
      (pss_one (ps_ret (pe_lst (pa_cons (pe_call G_law_signed (hr.mono (by decide)) (by rfl) g_law_signed kp_law_signed b_law_signed .nil pass0 (pa_cons (pv 0) (pa_cons (pe_op op_mulU (pv 2) (pe_call G_law_big (hr.mono (by decide)) (by rfl) g_law_big kp_law_big b_law_big .nil pass0 (pa_cons (pv 0) (pa_cons pe_int pa_nil)))) pa_nil))) (pa_cons (pe_call G_law_signed (hr.mono (by decide)) (by rfl) g_law_signed kp_law_signed b_law_signed .nil pass0 (pa_cons (pv 0) (pa_cons (pe_op op_mulU (pv 2) (pe_op op_addU pe_int (pe_call G_law_big (hr.mono (by decide)) (by rfl) g_law_big kp_law_big b_law_big .nil pass0 (pa_cons (pv 0) (pa_cons pe_int pa_nil))))) pa_nil))) pa_nil)))))) pss_nil)
      (pss_cons (ps_if (pt_cmpR (op_eqD hr.units) (pv 1) pe_int (nomark _)) (pss_one (ps_ret (pe_lst (pa_cons (pe_call G_law_signed (hr.mono (by decide)) (by rfl) g_law_signed kp_law_signed b_law_signed .nil pass0 (pa_cons (pv 0) (pa_cons (pe_call G_law_next (hr.mono (by decide)) (by rfl) g_law_next kp_law_next b_law_next .nil pass0 (pa_cons (pv 0) (pa_cons pe_int pa_nil))) pa_nil))) (pa_cons (pe_call G_law_signed (hr.mono (by decide)) (by rfl) g_law_signed kp_law_signed b_law_signed .nil pass0 (pa_cons (pv 0) (pa_cons (pe_op op_addU pe_int (pe_call G_law_next (hr.mono (by decide)) (by rfl) g_law_next kp_law_next b_law_next .nil pass0 (pa_cons (pv 0) (pa_cons pe_int pa_nil)))) pa_nil))) pa_nil))))) pss_nil)
      (pss_cons (ps_set (i := 3) sc_law_fraction.nd rfl (Or.inl rfl) (pe_call G_law_signed (hr.mono (by decide)) (by rfl) g_law_signed kp_law_signed b_law_signed .nil pass0 (pa_cons (pv 0) (pa_cons (pe_call G_law_big (hr.mono (by decide)) (by rfl) g_law_big kp_law_big b_law_big .nil pass0 (pa_cons (pv 0) (pa_cons pe_int pa_nil))) pa_nil))))
      (pss_cons (ps_set (i := 4) sc_law_fraction.nd rfl (Or.inl rfl) (pe_call G_law_signed (hr.mono (by decide)) (by rfl) g_law_signed kp_law_signed b_law_signed .nil pass0 (pa_cons (pv 0) (pa_cons (pe_callB (cr_max2 rfl) (by rfl) z_max (by decide +kernel) (pa_cons pe_int (pa_cons (pe_call G_law_big (hr.mono (by decide)) (by rfl) g_law_big kp_law_big b_law_big .nil pass0 (pa_cons (pv 0) (pa_cons pe_int pa_nil))) pa_nil))) pa_nil))))
      (pss_cons (ps_if (pt_cmpR (op_eqD hr.units) (pv 1) pe_int (nomark _)) (pss_one (ps_set (i := 4) sc_law_fraction.nd rfl (Or.inl rfl) (pe_call G_law_signed (hr.mono (by decide)) (by rfl) g_law_signed kp_law_signed b_law_signed .nil pass0 (pa_cons (pv 0) (pa_cons pe_int pa_nil))))) pss_nil)
      (pss_cons (ps_if (PW.pt (pw_and (pt_cmpR (op_eqD hr.units) (pv 1) pe_int (nomark _)) (pw_and1 (pt_cmpR (op_eqD hr.units) (pe_call G_law_next (hr.mono (by decide)) (by rfl) g_law_next kp_law_next b_law_next .nil pass0 (pa_cons (pv 0) (pa_cons pe_int pa_nil))) pe_int (nomark _))))) (pss_one (ps_set (i := 3) sc_law_fraction.nd rfl (Or.inl rfl) pe_int)) pss_nil)
      (pss_one (ps_ret (pe_lst (pa_cons (pv 3) (pa_cons (pv 4) pa_nil)))))))))))),
    (s_seq (s_set (e_own (a_cons (e_var 0) (a_cons (e_int 5) a_nil))))
      (s_seq (s_if (t_test (e_op o_eq (e_var 1) (e_int 1))) (s_seq (s_set (e_op o_add (e_int 1) (e_own (a_cons (e_var 0) (a_cons (e_int 19) a_nil)))))
      (s_ret (e_lst (a_cons (e_own (a_cons (e_var 0) (a_cons (e_op o_mul (e_var 2) (e_own (a_cons (e_var 0) (a_cons (e_int 20) a_nil)))) a_nil))) (a_cons (e_own (a_cons (e_var 0) (a_cons (e_op o_mul (e_var 2) (e_op o_add (e_int 1) (e_own (a_cons (e_var 0) (a_cons (e_int 19) a_nil))))) a_nil))) a_nil))))) s_next)
      (s_seq (s_if (t_test (e_op o_eq (e_var 1) (e_int 2))) (s_ret (e_lst (a_cons (e_own (a_cons (e_var 0) (a_cons (e_own (a_cons (e_var 0) (a_cons (e_int 30) a_nil))) a_nil))) (a_cons (e_own (a_cons (e_var 0) (a_cons (e_op o_add (e_int 1) (e_own (a_cons (e_var 0) (a_cons (e_int 30) a_nil)))) a_nil))) a_nil)))) s_next)
      (s_seq (s_set (e_own (a_cons (e_var 0) (a_cons (e_own (a_cons (e_var 0) (a_cons (e_int 40) a_nil))) a_nil))))
      (s_seq (s_set (e_own (a_cons (e_var 0) (a_cons (e_call c_max2 (a_cons (e_int 1) (a_cons (e_own (a_cons (e_var 0) (a_cons (e_int 40) a_nil))) a_nil))) a_nil))))
      (s_seq (s_if (t_test (e_op o_eq (e_var 1) (e_int 3))) (s_set (e_own (a_cons (e_var 0) (a_cons (e_int 1) a_nil)))) s_next)
      (s_seq (s_if (t_and (t_test (e_op o_eq (e_var 1) (e_int 4))) (t_test (e_op o_eq (e_own (a_cons (e_var 0) (a_cons (e_int 2) a_nil))) (e_int 0)))) (s_set (e_int 0)) s_next)
      (s_ret (e_lst (a_cons (e_var 3) (a_cons (e_var 4) a_nil)))))))))))⟩)

abbrev s_law_stands : Stmt := topS 19
abbrev N_law_stands : List PySem.Str := ["told", "p", "q"]
theorem sc_law_stands : FnScope N_law_stands ["told", "p", "q"] (defScope s_law_stands) := ⟨rfl, rfl, rfl, by decide +kernel, rfl, by decide +kernel, by decide +kernel⟩
theorem ok_law_stands {P : Program} {w : World} {K : PySem.W.Frag} {cls : Nat → Addr} {mg : PySem.Str → Option Value} {base : Heap} (F : Df K mg "_law_stands" s_law_stands) (z_isinstance : mg "isinstance" = none) (z_tuple : mg "tuple" = none) (z_len : mg "len" = none) (z_list : mg "list" = none) (z_abs : mg "abs" = none) (h_law_ints : Fn P w K cls mg base "_law_ints" 2 m_law_ints 1) (h_law_common : Fn P w K cls mg base "_law_common" 1 m_law_common 2) : Fn P w K cls mg base "_law_stands" 3 m_law_stands 3 := by
  obtain ⟨a_law_ints, fd_law_ints, ps_law_ints, G_law_ints, g_law_ints, kp_law_ints, b_law_ints⟩ := h_law_ints.ex
  obtain ⟨a_law_common, fd_law_common, ps_law_common, G_law_common, g_law_common, kp_law_common, b_law_common⟩ := h_law_common.ex
  exact df_ok (N := N_law_stands) (ps := ["told", "p", "q"]) (m := m_law_stands_b) F sc_law_stands rfl rfl (fun _ _ _ _ _ _ us hl => match us, hl with | [_, _, _], _ => rfl) (fun f cdv A outer s H E hr => ⟨_,
    (pss_cons (ps_if (PW.pt (pw_or (pt_not (pt_val (pe_callB call_isi (by rfl) z_isinstance (by decide +kernel) (pa_cons (pv 0) (pa_cons (pe_bltn (v := .ty "tuple") (by rfl) z_tuple (by decide +kernel) rfl) pa_nil))))) (pw_or (pt_cmpR (op_neD hr.units) (pe_callB cr_len (by rfl) z_len (by decide +kernel) (pa_cons (pv 0) pa_nil)) pe_int (nomark _)) (pw_or1 (pt_not (pt_val (pe_call G_law_ints (hr.mono (by decide)) (by rfl) g_law_ints kp_law_ints b_law_ints .nil pass0 (pa_cons (pe_callTy cr_list (by rfl) z_list (by decide +kernel) (pa_cons (pv 0) pa_nil)) pa_nil)))))))) (pss_one (ps_ret pe_bl)) pss_nil)
      (pss_cons (ps_if (PW.pt (pw_or (pt_cmpR op_le (pe_ix ix_seq (pv 0) pe_int (fun _ _ => rfl)) pe_int (nomark _)) (pw_or1 (pt_cmpR (op_neD hr.units) (pe_op op_mulU (pe_ix ix_seq (pv 0) pe_int (fun _ _ => rfl)) (pv 2)) (pe_op op_mulU (pv 1) (pe_ix ix_seq (pv 0) pe_int (fun _ _ => rfl))) (nomark _))))) (pss_one (ps_ret pe_bl)) pss_nil)
      (pss_one (ps_ret (pe_cmpR (op_eqD hr.units) (pe_call G_law_common (hr.mono (by decide)) (by rfl) g_law_common kp_law_common b_law_common .nil pass0 (pa_cons (pe_callB cr_abs (by rfl) z_abs (by decide +kernel) (pa_cons (pe_ix ix_seq (pv 0) pe_int (fun _ _ => rfl)) pa_nil)) (pa_cons (pe_ix ix_seq (pv 0) pe_int (fun _ _ => rfl)) pa_nil))) pe_int (nomark _)))))),
    (s_seq (s_if (t_or (t_not (t_B (e_call c_isi (a_cons (e_var 0) (a_cons (e_ty _) a_nil))))) (t_or (t_test (e_op o_ne (e_call c_len (a_cons (e_var 0) a_nil)) (e_int 2))) (t_not (t_B (e_own (a_cons (e_call c_list (a_cons (e_var 0) a_nil)) a_nil)))))) (s_ret (e_bl false)) s_next)
      (s_seq (s_if (t_or (t_test (e_op (o_cmp fun i j => decide (i ≤ j)) (e_op o_ix (e_var 0) (e_int 1)) (e_int 0))) (t_test (e_op o_ne (e_op o_mul (e_op o_ix (e_var 0) (e_int 0)) (e_var 2)) (e_op o_mul (e_var 1) (e_op o_ix (e_var 0) (e_int 1)))))) (s_ret (e_bl false)) s_next)
      (s_ret (e_op o_eq (e_own (a_cons (e_call c_abs (a_cons (e_op o_ix (e_var 0) (e_int 0)) a_nil)) (a_cons (e_op o_ix (e_var 0) (e_int 1)) a_nil))) (e_int 1)))))⟩)

abbrev s_law_other : Stmt := topS 18
abbrev N_law_other : List PySem.Str := ["state", "a", "kind", "many", "fraction"]
theorem sc_law_other : FnScope N_law_other ["state", "a"] (defScope s_law_other) := ⟨rfl, rfl, rfl, by decide +kernel, rfl, by decide +kernel, by decide +kernel⟩
theorem ok_law_other {P : Program} {w : World} {K : PySem.W.Frag} {cls : Nat → Addr} {mg : PySem.Str → Option Value} {base : Heap} (F : Df K mg "_law_other" s_law_other) (z_abs : mg "abs" = none) (h_law_next : Fn P w K cls mg base "_law_next" 1 m_law_next 2) (h_law_big : Fn P w K cls mg base "_law_big" 2 m_law_big 2) (h_law_signed : Fn P w K cls mg base "_law_signed" 2 m_law_signed 2) (h_law_lowest : Fn P w K cls mg base "_law_lowest" 2 m_law_lowest 2) (h_law_fraction : Fn P w K cls mg base "_law_fraction" 3 m_law_fraction 1) : Fn P w K cls mg base "_law_other" 4 m_law_other 2 := by
  obtain ⟨a_law_next, fd_law_next, ps_law_next, G_law_next, g_law_next, kp_law_next, b_law_next⟩ := h_law_next.ex
  obtain ⟨a_law_big, fd_law_big, ps_law_big, G_law_big, g_law_big, kp_law_big, b_law_big⟩ := h_law_big.ex
  obtain ⟨a_law_signed, fd_law_signed, ps_law_signed, G_law_signed, g_law_signed, kp_law_signed, b_law_signed⟩ := h_law_signed.ex
  obtain ⟨a_law_lowest, fd_law_lowest, ps_law_lowest, G_law_lowest, g_law_lowest, kp_law_lowest, b_law_lowest⟩ := h_law_lowest.ex
  obtain ⟨a_law_fraction, fd_law_fraction, ps_law_fraction, G_law_fraction, g_law_fraction, kp_law_fraction, b_law_fraction⟩ := h_law_fraction.ex
  exact df_ok (N := N_law_other) (ps := ["state", "a"]) (m := m_law_other_b) F sc_law_other rfl rfl (fun _ _ _ _ _ _ us hl => match us, hl with | [_, _], _ => rfl) (fun f cdv A outer s H E hr => ⟨_,
    (pss_cons (ps_set (i := 2) sc_law_other.nd rfl (Or.inl rfl) (pe_call G_law_next (hr.mono (by decide)) (by rfl) g_law_next kp_law_next b_law_next .nil pass0 (pa_cons (pv 0) (pa_cons pe_int pa_nil))))
      (pss_cons (ps_if (pt_cmpR (op_eqD hr.units) (pv 2) pe_int (nomark _)) (pss_one (ps_ret (pv 1))) pss_nil)
      (pss_cons (ps_if (pt_cmpR (op_eqD hr.units) (pv 2) pe_int (nomark _)) (pss_one (ps_ret (pe_tup (pa_cons (pe_op op_sub pe_int (pe_ix ix_seq (pv 1) pe_int (fun _ _ => rfl))) (pa_cons (pe_ix ix_seq (pv 1) pe_int (fun _ _ => rfl)) pa_nil))))) pss_nil)
      (pss_cons (ps_if (PW.pt (pw_and (pt_cmpR (op_eqD hr.units) (pv 2) pe_int (nomark _)) (pw_and (pt_cmpR op_lt (pe_callB cr_abs (by rfl) z_abs (by decide +kernel) (pa_cons (pe_ix ix_seq (pv 1) pe_int (fun _ _ => rfl)) pa_nil)) (pe_op op_pow pe_int pe_int) (nomark _)) (pw_and1 (pt_cmpR op_lt (pe_ix ix_seq (pv 1) pe_int (fun _ _ => rfl)) (pe_op op_pow pe_int pe_int) (nomark _)))))) (pss_cons (ps_set (i := 3) sc_law_other.nd rfl (Or.inl rfl) (pe_op op_addU pe_int (pe_call G_law_big (hr.mono (by decide)) (by rfl) g_law_big kp_law_big b_law_big .nil pass0 (pa_cons (pv 0) (pa_cons pe_int pa_nil)))))
      (pss_one (ps_ret (pe_call G_law_lowest (hr.mono (by decide)) (by rfl) g_law_lowest kp_law_lowest b_law_lowest .nil pass0 (pa_cons (pe_op op_addU (pe_op op_mulU (pe_ix ix_seq (pv 1) pe_int (fun _ _ => rfl)) (pv 3)) (pe_call G_law_signed (hr.mono (by decide)) (by rfl) g_law_signed kp_law_signed b_law_signed .nil pass0 (pa_cons (pv 0) (pa_cons pe_int pa_nil)))) (pa_cons (pe_op op_mulU (pe_ix ix_seq (pv 1) pe_int (fun _ _ => rfl)) (pv 3)) pa_nil)))))) pss_nil)
      (pss_cons (ps_if (PW.pt (pw_and (pt_cmpR (op_eqD hr.units) (pv 2) pe_int (nomark _)) (pw_and1 (pt_cmpR (op_neD hr.units) (pe_ix ix_seq (pv 1) pe_int (fun _ _ => rfl)) pe_int (nomark _))))) (pss_one (ps_ret (pe_call G_law_lowest (hr.mono (by decide)) (by rfl) g_law_lowest kp_law_lowest b_law_lowest .nil pass0 (pa_cons (pe_ix ix_seq (pv 1) pe_int (fun _ _ => rfl)) (pa_cons (pe_ix ix_seq (pv 1) pe_int (fun _ _ => rfl)) pa_nil))))) pss_nil)
      (pss_cons (ps_if (pt_cmpR (op_eqD hr.units) (pv 2) pe_int (nomark _)) (pss_one (ps_ret (pe_tup (pa_cons (pe_call G_law_signed (hr.mono (by decide)) (by rfl) g_law_signed kp_law_signed b_law_signed .nil pass0 (pa_cons (pv 0) (pa_cons (pe_call G_law_big (hr.mono (by decide)) (by rfl) g_law_big kp_law_big b_law_big .nil pass0 (pa_cons (pv 0) (pa_cons pe_int pa_nil))) pa_nil))) (pa_cons pe_int pa_nil))))) pss_nil)
      (pss_cons (ps_set (i := 4) sc_law_other.nd rfl (Or.inl rfl) (pe_call G_law_fraction (hr.mono (by decide)) (by rfl) g_law_fraction kp_law_fraction b_law_fraction .nil pass0 (pa_cons (pv 0) pa_nil)))
      (pss_one (ps_ret (pe_call G_law_lowest (hr.mono (by decide)) (by rfl) g_law_lowest kp_law_lowest b_law_lowest .nil pass0 (pa_cons (pe_ix ix_seq (pv 4) pe_int (fun _ _ => rfl)) (pa_cons (pe_ix ix_seq (pv 4) pe_int (fun _ _ => rfl)) pa_nil)))))))))))),
    (s_seq (s_set (e_own (a_cons (e_var 0) (a_cons (e_int 7) a_nil))))
      (s_seq (s_if (t_test (e_op o_eq (e_var 2) (e_int 1))) (s_ret (e_var 1)) s_next)
      (s_seq (s_if (t_test (e_op o_eq (e_var 2) (e_int 2))) (s_ret (e_tup (a_cons (e_op o_sub (e_int 0) (e_op o_ix (e_var 1) (e_int 0))) (a_cons (e_op o_ix (e_var 1) (e_int 1)) a_nil)))) s_next)
      (s_seq (s_if (t_and (t_test (e_op o_eq (e_var 2) (e_int 3))) (t_and (t_test (e_op (o_cmp fun i j => decide (i < j)) (e_call c_abs (a_cons (e_op o_ix (e_var 1) (e_int 0)) a_nil)) (e_op o_pow (e_int 10) (e_int 20)))) (t_test (e_op (o_cmp fun i j => decide (i < j)) (e_op o_ix (e_var 1) (e_int 1)) (e_op o_pow (e_int 10) (e_int 20)))))) (s_seq (s_set (e_op o_add (e_int 1) (e_own (a_cons (e_var 0) (a_cons (e_int 19) a_nil)))))
      (s_ret (e_own (a_cons (e_op o_add (e_op o_mul (e_op o_ix (e_var 1) (e_int 0)) (e_var 3)) (e_own (a_cons (e_var 0) (a_cons (e_int 1) a_nil)))) (a_cons (e_op o_mul (e_op o_ix (e_var 1) (e_int 1)) (e_var 3)) a_nil))))) s_next)
      (s_seq (s_if (t_and (t_test (e_op o_eq (e_var 2) (e_int 4))) (t_test (e_op o_ne (e_op o_ix (e_var 1) (e_int 0)) (e_int 0)))) (s_ret (e_own (a_cons (e_op o_ix (e_var 1) (e_int 1)) (a_cons (e_op o_ix (e_var 1) (e_int 0)) a_nil)))) s_next)
      (s_seq (s_if (t_test (e_op o_eq (e_var 2) (e_int 5))) (s_ret (e_tup (a_cons (e_own (a_cons (e_var 0) (a_cons (e_own (a_cons (e_var 0) (a_cons (e_int 40) a_nil))) a_nil))) (a_cons (e_int 1) a_nil)))) s_next)
      (s_seq (s_set (e_own (a_cons (e_var 0) a_nil)))
      (s_ret (e_own (a_cons (e_op o_ix (e_var 4) (e_int 0)) (a_cons (e_op o_ix (e_var 4) (e_int 1)) a_nil)))))))))))⟩)

abbrev s_law_deeds : Stmt := topS 21
abbrev N_law_deeds : List PySem.Str := ["a", "b", "bottom"]
theorem sc_law_deeds : FnScope N_law_deeds ["a", "b"] (defScope s_law_deeds) := ⟨rfl, rfl, rfl, by decide +kernel, rfl, by decide +kernel, by decide +kernel⟩
theorem ok_law_deeds {P : Program} {w : World} {K : PySem.W.Frag} {cls : Nat → Addr} {mg : PySem.Str → Option Value} {base : Heap} (F : Df K mg "_law_deeds" s_law_deeds) (h_plus : Fn P w K cls mg base "plus" 2 m_plus 2) (h_law_stands : Fn P w K cls mg base "_law_stands" 3 m_law_stands 3) (h_minus : Fn P w K cls mg base "minus" 2 m_minus 2) (h_times : Fn P w K cls mg base "times" 2 m_times 2) (h_over : Fn P w K cls mg base "over" 2 m_over 2) (h_law_less : Fn P w K cls mg base "_law_less" 2 m_law_less 2) : Fn P w K cls mg base "_law_deeds" 4 m_law_deeds 2 := by
  obtain ⟨a_plus, fd_plus, ps_plus, G_plus, g_plus, kp_plus, b_plus⟩ := h_plus.ex
  obtain ⟨a_law_stands, fd_law_stands, ps_law_stands, G_law_stands, g_law_stands, kp_law_stands, b_law_stands⟩ := h_law_stands.ex
  obtain ⟨a_minus, fd_minus, ps_minus, G_minus, g_minus, kp_minus, b_minus⟩ := h_minus.ex
  obtain ⟨a_times, fd_times, ps_times, G_times, g_times, kp_times, b_times⟩ := h_times.ex
  obtain ⟨a_over, fd_over, ps_over, G_over, g_over, kp_over, b_over⟩ := h_over.ex
  obtain ⟨a_law_less, fd_law_less, ps_law_less, G_law_less, g_law_less, kp_law_less, b_law_less⟩ := h_law_less.ex
  exact df_ok (N := N_law_deeds) (ps := ["a", "b"]) (m := m_law_deeds_b) F sc_law_deeds rfl rfl (fun _ _ _ _ _ _ us hl => match us, hl with | [_, _], _ => rfl) (fun f cdv A outer s H E hr => ⟨_,
    (pss_cons (ps_set (i := 2) sc_law_deeds.nd rfl (Or.inl rfl) (pe_op op_mulU (pe_ix ix_seq (pv 0) pe_int (fun _ _ => rfl)) (pe_ix ix_seq (pv 1) pe_int (fun _ _ => rfl))))
      (pss_cons (ps_if (pt_not (pt_val (pe_call G_law_stands (hr.mono (by decide)) (by rfl) g_law_stands kp_law_stands b_law_stands .nil pass0 (pa_cons (pe_call G_plus (hr.mono (by decide)) (by rfl) g_plus kp_plus b_plus .nil pass0 (pa_cons (pv 0) (pa_cons (pv 1) pa_nil))) (pa_cons (pe_op op_addU (pe_op op_mulU (pe_ix ix_seq (pv 0) pe_int (fun _ _ => rfl)) (pe_ix ix_seq (pv 1) pe_int (fun _ _ => rfl))) (pe_op op_mulU (pe_ix ix_seq (pv 1) pe_int (fun _ _ => rfl)) (pe_ix ix_seq (pv 0) pe_int (fun _ _ => rfl)))) (pa_cons (pv 2) pa_nil)))))) (pss_one (ps_ret pe_bl)) pss_nil)
      (pss_cons (ps_if (pt_not (pt_val (pe_call G_law_stands (hr.mono (by decide)) (by rfl) g_law_stands kp_law_stands b_law_stands .nil pass0 (pa_cons (pe_call G_minus (hr.mono (by decide)) (by rfl) g_minus kp_minus b_minus .nil pass0 (pa_cons (pv 0) (pa_cons (pv 1) pa_nil))) (pa_cons (pe_op op_sub (pe_op op_mulU (pe_ix ix_seq (pv 0) pe_int (fun _ _ => rfl)) (pe_ix ix_seq (pv 1) pe_int (fun _ _ => rfl))) (pe_op op_mulU (pe_ix ix_seq (pv 1) pe_int (fun _ _ => rfl)) (pe_ix ix_seq (pv 0) pe_int (fun _ _ => rfl)))) (pa_cons (pv 2) pa_nil)))))) (pss_one (ps_ret pe_bl)) pss_nil)
      (pss_cons (ps_if (pt_not (pt_val (pe_call G_law_stands (hr.mono (by decide)) (by rfl) g_law_stands kp_law_stands b_law_stands .nil pass0 (pa_cons (pe_call G_times (hr.mono (by decide)) (by rfl) g_times kp_times b_times .nil pass0 (pa_cons (pv 0) (pa_cons (pv 1) pa_nil))) (pa_cons (pe_op op_mulU (pe_ix ix_seq (pv 0) pe_int (fun _ _ => rfl)) (pe_ix ix_seq (pv 1) pe_int (fun _ _ => rfl))) (pa_cons (pv 2) pa_nil)))))) (pss_one (ps_ret pe_bl)) pss_nil)
      (pss_cons (ps_if (PW.pt (pw_and (pt_cmpR (op_neD hr.units) (pe_ix ix_seq (pv 1) pe_int (fun _ _ => rfl)) pe_int (nomark _)) (pw_and1 (pt_not (pt_val (pe_call G_law_stands (hr.mono (by decide)) (by rfl) g_law_stands kp_law_stands b_law_stands .nil pass0 (pa_cons (pe_call G_over (hr.mono (by decide)) (by rfl) g_over kp_over b_over .nil pass0 (pa_cons (pv 0) (pa_cons (pv 1) pa_nil))) (pa_cons (pe_op op_mulU (pe_ix ix_seq (pv 0) pe_int (fun _ _ => rfl)) (pe_ix ix_seq (pv 1) pe_int (fun _ _ => rfl))) (pa_cons (pe_op op_mulU (pe_ix ix_seq (pv 0) pe_int (fun _ _ => rfl)) (pe_ix ix_seq (pv 1) pe_int (fun _ _ => rfl))) pa_nil))))))))) (pss_one (ps_ret pe_bl)) pss_nil)
      (pss_one (ps_ret (pe_call G_law_less (hr.mono (by decide)) (by rfl) g_law_less kp_law_less b_law_less .nil pass0 (pa_cons (pv 0) (pa_cons (pv 1) pa_nil)))))))))),
    (s_seq (s_set (e_op o_mul (e_op o_ix (e_var 0) (e_int 1)) (e_op o_ix (e_var 1) (e_int 1))))
      (s_seq (s_if (t_not (t_B (e_own (a_cons (e_own (a_cons (e_var 0) (a_cons (e_var 1) a_nil))) (a_cons (e_op o_add (e_op o_mul (e_op o_ix (e_var 0) (e_int 0)) (e_op o_ix (e_var 1) (e_int 1))) (e_op o_mul (e_op o_ix (e_var 1) (e_int 0)) (e_op o_ix (e_var 0) (e_int 1)))) (a_cons (e_var 2) a_nil)))))) (s_ret (e_bl false)) s_next)
      (s_seq (s_if (t_not (t_B (e_own (a_cons (e_own (a_cons (e_var 0) (a_cons (e_var 1) a_nil))) (a_cons (e_op o_sub (e_op o_mul (e_op o_ix (e_var 0) (e_int 0)) (e_op o_ix (e_var 1) (e_int 1))) (e_op o_mul (e_op o_ix (e_var 1) (e_int 0)) (e_op o_ix (e_var 0) (e_int 1)))) (a_cons (e_var 2) a_nil)))))) (s_ret (e_bl false)) s_next)
      (s_seq (s_if (t_not (t_B (e_own (a_cons (e_own (a_cons (e_var 0) (a_cons (e_var 1) a_nil))) (a_cons (e_op o_mul (e_op o_ix (e_var 0) (e_int 0)) (e_op o_ix (e_var 1) (e_int 0))) (a_cons (e_var 2) a_nil)))))) (s_ret (e_bl false)) s_next)
      (s_seq (s_if (t_and (t_test (e_op o_ne (e_op o_ix (e_var 1) (e_int 0)) (e_int 0))) (t_not (t_B (e_own (a_cons (e_own (a_cons (e_var 0) (a_cons (e_var 1) a_nil))) (a_cons (e_op o_mul (e_op o_ix (e_var 0) (e_int 0)) (e_op o_ix (e_var 1) (e_int 1))) (a_cons (e_op o_mul (e_op o_ix (e_var 0) (e_int 1)) (e_op o_ix (e_var 1) (e_int 0))) a_nil))))))) (s_ret (e_bl false)) s_next)
      (s_ret (e_own (a_cons (e_var 0) (a_cons (e_var 1) a_nil)))))))))⟩)

abbrev s_law : Stmt := topS 22
abbrev N_law : List PySem.Str := ["script", "first", "told", "a", "b", "again"]
theorem sc_law : FnScope N_law ["script"] (defScope s_law) := ⟨rfl, rfl, rfl, by decide +kernel, rfl, by decide +kernel, by decide +kernel⟩
theorem ok_law {P : Program} {w : World} {K : PySem.W.Frag} {cls : Nat → Addr} {mg : PySem.Str → Option Value} {base : Heap} {f : Addr} {fd : FuncData} (F : Fun K "law" "law" s_law f fd) (h_law_state : Fn P w K cls mg base "_law_state" 1 m_law_state 2) (h_law_fraction : Fn P w K cls mg base "_law_fraction" 3 m_law_fraction 1) (h_ratio : Fn P w K cls mg base "ratio" 1 m_ratio 2) (h_law_stands : Fn P w K cls mg base "_law_stands" 3 m_law_stands 3) (h_law_lowest : Fn P w K cls mg base "_law_lowest" 2 m_law_lowest 2) (h_law_other : Fn P w K cls mg base "_law_other" 4 m_law_other 2) (h_law_deeds : Fn P w K cls mg base "_law_deeds" 4 m_law_deeds 2) (h_law_less : Fn P w K cls mg base "_law_less" 2 m_law_less 2) : FnOk P w K mg base CX0 5 f fd ["script"] (spM K cls m_law 1) := by
  obtain ⟨a_law_state, fd_law_state, ps_law_state, G_law_state, g_law_state, kp_law_state, b_law_state⟩ := h_law_state.ex
  obtain ⟨a_law_fraction, fd_law_fraction, ps_law_fraction, G_law_fraction, g_law_fraction, kp_law_fraction, b_law_fraction⟩ := h_law_fraction.ex
  obtain ⟨a_ratio, fd_ratio, ps_ratio, G_ratio, g_ratio, kp_ratio, b_ratio⟩ := h_ratio.ex
  obtain ⟨a_law_stands, fd_law_stands, ps_law_stands, G_law_stands, g_law_stands, kp_law_stands, b_law_stands⟩ := h_law_stands.ex
  obtain ⟨a_law_lowest, fd_law_lowest, ps_law_lowest, G_law_lowest, g_law_lowest, kp_law_lowest, b_law_lowest⟩ := h_law_lowest.ex
  obtain ⟨a_law_other, fd_law_other, ps_law_other, G_law_other, g_law_other, kp_law_other, b_law_other⟩ := h_law_other.ex
  obtain ⟨a_law_deeds, fd_law_deeds, ps_law_deeds, G_law_deeds, g_law_deeds, kp_law_deeds, b_law_deeds⟩ := h_law_deeds.ex
  obtain ⟨a_law_less, fd_law_less, ps_law_less, G_law_less, g_law_less, kp_law_less, b_law_less⟩ := h_law_less.ex
  exact fun_ok (N := N_law) (m := m_law_b) F sc_law rfl rfl (fun cdv A outer s H E hr => ⟨_,
    (pss_cons (ps_set (i := 1) sc_law.nd rfl (Or.inl rfl) (pe_call G_law_fraction (hr.mono (by decide)) (by rfl) g_law_fraction kp_law_fraction b_law_fraction .nil pass0 (pa_cons (pe_call G_law_state (hr.mono (by decide)) (by rfl) g_law_state kp_law_state b_law_state .nil pass0 (pa_cons (pv 0) (pa_cons pe_int pa_nil))) pa_nil)))
      (pss_cons (ps_set (i := 2) sc_law.nd rfl (Or.inl rfl) (pe_call G_ratio (hr.mono (by decide)) (by rfl) g_ratio kp_ratio b_ratio .nil pass0 (pa_cons (pe_ix ix_seq (pv 1) pe_int (fun _ _ => rfl)) (pa_cons (pe_ix ix_seq (pv 1) pe_int (fun _ _ => rfl)) pa_nil))))
      (pss_cons (ps_if (pt_not (pt_val (pe_call G_law_stands (hr.mono (by decide)) (by rfl) g_law_stands kp_law_stands b_law_stands .nil pass0 (pa_cons (pv 2) (pa_cons (pe_ix ix_seq (pv 1) pe_int (fun _ _ => rfl)) (pa_cons (pe_ix ix_seq (pv 1) pe_int (fun _ _ => rfl)) pa_nil)))))) (pss_one (ps_ret pe_bl)) pss_nil)
      (pss_cons (ps_set (i := 3) sc_law.nd rfl (Or.inl rfl) (pe_call G_law_lowest (hr.mono (by decide)) (by rfl) g_law_lowest kp_law_lowest b_law_lowest .nil pass0 (pa_cons (pe_ix ix_seq (pv 1) pe_int (fun _ _ => rfl)) (pa_cons (pe_ix ix_seq (pv 1) pe_int (fun _ _ => rfl)) pa_nil))))
      (pss_cons (ps_set (i := 4) sc_law.nd rfl (Or.inl rfl) (pe_call G_law_other (hr.mono (by decide)) (by rfl) g_law_other kp_law_other b_law_other .nil pass0 (pa_cons (pe_call G_law_state (hr.mono (by decide)) (by rfl) g_law_state kp_law_state b_law_state .nil pass0 (pa_cons (pv 0) (pa_cons pe_int pa_nil))) (pa_cons (pv 3) pa_nil))))
      (pss_cons (ps_if (PW.pt (pw_or (pt_not (pt_val (pe_call G_law_deeds (hr.mono (by decide)) (by rfl) g_law_deeds kp_law_deeds b_law_deeds .nil pass0 (pa_cons (pv 3) (pa_cons (pv 4) pa_nil))))) (pw_or1 (pt_not (pt_val (pe_call G_law_deeds (hr.mono (by decide)) (by rfl) g_law_deeds kp_law_deeds b_law_deeds .nil pass0 (pa_cons (pv 4) (pa_cons (pv 3) pa_nil)))))))) (pss_one (ps_ret pe_bl)) pss_nil)
      (pss_cons (ps_if (PW.pt (pw_or (pt_not (pt_val (pe_call G_law_less (hr.mono (by decide)) (by rfl) g_law_less kp_law_less b_law_less .nil pass0 (pa_cons (pv 3) (pa_cons (pv 3) pa_nil))))) (pw_or1 (pt_not (pt_val (pe_call G_law_deeds (hr.mono (by decide)) (by rfl) g_law_deeds kp_law_deeds b_law_deeds .nil pass0 (pa_cons (pv 3) (pa_cons (pv 3) pa_nil)))))))) (pss_one (ps_ret pe_bl)) pss_nil)
      (pss_cons (ps_set (i := 5) sc_law.nd rfl (Or.inl rfl) (pe_call G_ratio (hr.mono (by decide)) (by rfl) g_ratio kp_ratio b_ratio .nil pass0 (pa_cons (pe_ix ix_seq (pv 1) pe_int (fun _ _ => rfl)) (pa_cons (pe_ix ix_seq (pv 1) pe_int (fun _ _ => rfl)) pa_nil))))
      (pss_one (ps_ret (pe_and (pe_call G_law_stands (hr.mono (by decide)) (by rfl) g_law_stands kp_law_stands b_law_stands .nil pass0 (pa_cons (pv 5) (pa_cons (pe_ix ix_seq (pv 1) pe_int (fun _ _ => rfl)) (pa_cons (pe_ix ix_seq (pv 1) pe_int (fun _ _ => rfl)) pa_nil)))) (pe_one (pe_cmpR (op_eqD hr.units) (pv 5) (pv 2) (nomark _)))))))))))))),
    (s_seq (s_set (e_own (a_cons (e_own (a_cons (e_var 0) (a_cons (e_int 0) a_nil))) a_nil)))
      (s_seq (s_set (e_own (a_cons (e_op o_ix (e_var 1) (e_int 0)) (a_cons (e_op o_ix (e_var 1) (e_int 1)) a_nil))))
      (s_seq (s_if (t_not (t_B (e_own (a_cons (e_var 2) (a_cons (e_op o_ix (e_var 1) (e_int 0)) (a_cons (e_op o_ix (e_var 1) (e_int 1)) a_nil)))))) (s_ret (e_bl false)) s_next)
      (s_seq (s_set (e_own (a_cons (e_op o_ix (e_var 1) (e_int 0)) (a_cons (e_op o_ix (e_var 1) (e_int 1)) a_nil))))
      (s_seq (s_set (e_own (a_cons (e_own (a_cons (e_var 0) (a_cons (e_int 1) a_nil))) (a_cons (e_var 3) a_nil))))
      (s_seq (s_if (t_or (t_not (t_B (e_own (a_cons (e_var 3) (a_cons (e_var 4) a_nil))))) (t_not (t_B (e_own (a_cons (e_var 4) (a_cons (e_var 3) a_nil)))))) (s_ret (e_bl false)) s_next)
      (s_seq (s_if (t_or (t_not (t_B (e_own (a_cons (e_var 3) (a_cons (e_var 3) a_nil))))) (t_not (t_B (e_own (a_cons (e_var 3) (a_cons (e_var 3) a_nil)))))) (s_ret (e_bl false)) s_next)
      (s_seq (s_set (e_own (a_cons (e_op o_ix (e_var 1) (e_int 0)) (a_cons (e_op o_ix (e_var 1) (e_int 1)) a_nil))))
      (s_ret (e_and (e_own (a_cons (e_var 5) (a_cons (e_op o_ix (e_var 1) (e_int 0)) (a_cons (e_op o_ix (e_var 1) (e_int 1)) a_nil)))) (e_op o_eq (e_var 5) (e_var 2))))))))))))⟩)

theorem all_mk {l : PySem.W.OpenLaw} {w : World} {K : PySem.W.Frag} {h : Heap} {mg : PySem.Str → Option Value} {fa : Addr} (X : K.In h) (G : h.Ns mainGlobals mg) (hfa : mg "law" = some (.ref fa))
    {f_ratio : Addr} {od_ratio an_ratio : Option Addr} {sl_ratio : Array (Option Value)} {oc_ratio kV_ratio dc_ratio pm_ratio cd_ratio ct_ratio : Value}
    (a_ratio : PySem.W.nsIn K mainGlobals "ratio" = some (some (.ref f_ratio))) (l_ratio : K.lookup f_ratio = some ⟨oc_ratio, od_ratio, .func (PySem.W.fnOf "ratio" "ratio" (defArgs s_ratio) (defBody s_ratio) (defScope s_ratio) .none kV_ratio dc_ratio pm_ratio an_ratio cd_ratio ct_ratio), sl_ratio⟩) (c_ratio : PySem.W.codeIn K cd_ratio "ratio" = true) (k_ratio : PySem.W.keepIn K (.ref f_ratio) = true)
    {f_below : Addr} {od_below an_below : Option Addr} {sl_below : Array (Option Value)} {oc_below kV_below dc_below pm_below cd_below ct_below : Value}
    (a_below : PySem.W.nsIn K mainGlobals "below" = some (some (.ref f_below))) (l_below : K.lookup f_below = some ⟨oc_below, od_below, .func (PySem.W.fnOf "below" "below" (defArgs s_below) (defBody s_below) (defScope s_below) .none kV_below dc_below pm_below an_below cd_below ct_below), sl_below⟩) (c_below : PySem.W.codeIn K cd_below "below" = true) (k_below : PySem.W.keepIn K (.ref f_below) = true)
    {f_law_int : Addr} {od_law_int an_law_int : Option Addr} {sl_law_int : Array (Option Value)} {oc_law_int kV_law_int dc_law_int pm_law_int cd_law_int ct_law_int : Value}
    (a_law_int : PySem.W.nsIn K mainGlobals "_law_int" = some (some (.ref f_law_int))) (l_law_int : K.lookup f_law_int = some ⟨oc_law_int, od_law_int, .func (PySem.W.fnOf "_law_int" "_law_int" (defArgs s_law_int) (defBody s_law_int) (defScope s_law_int) .none kV_law_int dc_law_int pm_law_int an_law_int cd_law_int ct_law_int), sl_law_int⟩) (c_law_int : PySem.W.codeIn K cd_law_int "_law_int" = true) (k_law_int : PySem.W.keepIn K (.ref f_law_int) = true)
    {f_law_state : Addr} {od_law_state an_law_state : Option Addr} {sl_law_state : Array (Option Value)} {oc_law_state kV_law_state dc_law_state pm_law_state cd_law_state ct_law_state : Value}
    (a_law_state : PySem.W.nsIn K mainGlobals "_law_state" = some (some (.ref f_law_state))) (l_law_state : K.lookup f_law_state = some ⟨oc_law_state, od_law_state, .func (PySem.W.fnOf "_law_state" "_law_state" (defArgs s_law_state) (defBody s_law_state) (defScope s_law_state) .none kV_law_state dc_law_state pm_law_state an_law_state cd_law_state ct_law_state), sl_law_state⟩) (c_law_state : PySem.W.codeIn K cd_law_state "_law_state" = true) (k_law_state : PySem.W.keepIn K (.ref f_law_state) = true)
    {f_law_next : Addr} {od_law_next an_law_next : Option Addr} {sl_law_next : Array (Option Value)} {oc_law_next kV_law_next dc_law_next pm_law_next cd_law_next ct_law_next : Value}
    (a_law_next : PySem.W.nsIn K mainGlobals "_law_next" = some (some (.ref f_law_next))) (l_law_next : K.lookup f_law_next = some ⟨oc_law_next, od_law_next, .func (PySem.W.fnOf "_law_next" "_law_next" (defArgs s_law_next) (defBody s_law_next) (defScope s_law_next) .none kV_law_next dc_law_next pm_law_next an_law_next cd_law_next ct_law_next), sl_law_next⟩) (c_law_next : PySem.W.codeIn K cd_law_next "_law_next" = true) (k_law_next : PySem.W.keepIn K (.ref f_law_next) = true)
    {f_law_common : Addr} {od_law_common an_law_common : Option Addr} {sl_law_common : Array (Option Value)} {oc_law_common kV_law_common dc_law_common pm_law_common cd_law_common ct_law_common : Value}
    (a_law_common : PySem.W.nsIn K mainGlobals "_law_common" = some (some (.ref f_law_common))) (l_law_common : K.lookup f_law_common = some ⟨oc_law_common, od_law_common, .func (PySem.W.fnOf "_law_common" "_law_common" (defArgs s_law_common) (defBody s_law_common) (defScope s_law_common) .none kV_law_common dc_law_common pm_law_common an_law_common cd_law_common ct_law_common), sl_law_common⟩) (c_law_common : PySem.W.codeIn K cd_law_common "_law_common" = true) (k_law_common : PySem.W.keepIn K (.ref f_law_common) = true)
    {f_plus : Addr} {od_plus an_plus : Option Addr} {sl_plus : Array (Option Value)} {oc_plus kV_plus dc_plus pm_plus cd_plus ct_plus : Value}
    (a_plus : PySem.W.nsIn K mainGlobals "plus" = some (some (.ref f_plus))) (l_plus : K.lookup f_plus = some ⟨oc_plus, od_plus, .func (PySem.W.fnOf "plus" "plus" (defArgs s_plus) (defBody s_plus) (defScope s_plus) .none kV_plus dc_plus pm_plus an_plus cd_plus ct_plus), sl_plus⟩) (c_plus : PySem.W.codeIn K cd_plus "plus" = true) (k_plus : PySem.W.keepIn K (.ref f_plus) = true)
    {f_minus : Addr} {od_minus an_minus : Option Addr} {sl_minus : Array (Option Value)} {oc_minus kV_minus dc_minus pm_minus cd_minus ct_minus : Value}
    (a_minus : PySem.W.nsIn K mainGlobals "minus" = some (some (.ref f_minus))) (l_minus : K.lookup f_minus = some ⟨oc_minus, od_minus, .func (PySem.W.fnOf "minus" "minus" (defArgs s_minus) (defBody s_minus) (defScope s_minus) .none kV_minus dc_minus pm_minus an_minus cd_minus ct_minus), sl_minus⟩) (c_minus : PySem.W.codeIn K cd_minus "minus" = true) (k_minus : PySem.W.keepIn K (.ref f_minus) = true)
    {f_times : Addr} {od_times an_times : Option Addr} {sl_times : Array (Option Value)} {oc_times kV_times dc_times pm_times cd_times ct_times : Value}
    (a_times : PySem.W.nsIn K mainGlobals "times" = some (some (.ref f_times))) (l_times : K.lookup f_times = some ⟨oc_times, od_times, .func (PySem.W.fnOf "times" "times" (defArgs s_times) (defBody s_times) (defScope s_times) .none kV_times dc_times pm_times an_times cd_times ct_times), sl_times⟩) (c_times : PySem.W.codeIn K cd_times "times" = true) (k_times : PySem.W.keepIn K (.ref f_times) = true)
    {f_over : Addr} {od_over an_over : Option Addr} {sl_over : Array (Option Value)} {oc_over kV_over dc_over pm_over cd_over ct_over : Value}
    (a_over : PySem.W.nsIn K mainGlobals "over" = some (some (.ref f_over))) (l_over : K.lookup f_over = some ⟨oc_over, od_over, .func (PySem.W.fnOf "over" "over" (defArgs s_over) (defBody s_over) (defScope s_over) .none kV_over dc_over pm_over an_over cd_over ct_over), sl_over⟩) (c_over : PySem.W.codeIn K cd_over "over" = true) (k_over : PySem.W.keepIn K (.ref f_over) = true)
    {f_law_ints : Addr} {od_law_ints an_law_ints : Option Addr} {sl_law_ints : Array (Option Value)} {oc_law_ints kV_law_ints dc_law_ints pm_law_ints cd_law_ints ct_law_ints : Value}
    (a_law_ints : PySem.W.nsIn K mainGlobals "_law_ints" = some (some (.ref f_law_ints))) (l_law_ints : K.lookup f_law_ints = some ⟨oc_law_ints, od_law_ints, .func (PySem.W.fnOf "_law_ints" "_law_ints" (defArgs s_law_ints) (defBody s_law_ints) (defScope s_law_ints) .none kV_law_ints dc_law_ints pm_law_ints an_law_ints cd_law_ints ct_law_ints), sl_law_ints⟩) (c_law_ints : PySem.W.codeIn K cd_law_ints "_law_ints" = true) (k_law_ints : PySem.W.keepIn K (.ref f_law_ints) = true)
    {f_law_big : Addr} {od_law_big an_law_big : Option Addr} {sl_law_big : Array (Option Value)} {oc_law_big kV_law_big dc_law_big pm_law_big cd_law_big ct_law_big : Value}
    (a_law_big : PySem.W.nsIn K mainGlobals "_law_big" = some (some (.ref f_law_big))) (l_law_big : K.lookup f_law_big = some ⟨oc_law_big, od_law_big, .func (PySem.W.fnOf "_law_big" "_law_big" (defArgs s_law_big) (defBody s_law_big) (defScope s_law_big) .none kV_law_big dc_law_big pm_law_big an_law_big cd_law_big ct_law_big), sl_law_big⟩) (c_law_big : PySem.W.codeIn K cd_law_big "_law_big" = true) (k_law_big : PySem.W.keepIn K (.ref f_law_big) = true)
    {f_law_signed : Addr} {od_law_signed an_law_signed : Option Addr} {sl_law_signed : Array (Option Value)} {oc_law_signed kV_law_signed dc_law_signed pm_law_signed cd_law_signed ct_law_signed : Value}
    (a_law_signed : PySem.W.nsIn K mainGlobals "_law_signed" = some (some (.ref f_law_signed))) (l_law_signed : K.lookup f_law_signed = some ⟨oc_law_signed, od_law_signed, .func (PySem.W.fnOf "_law_signed" "_law_signed" (defArgs s_law_signed) (defBody s_law_signed) (defScope s_law_signed) .none kV_law_signed dc_law_signed pm_law_signed an_law_signed cd_law_signed ct_law_signed), sl_law_signed⟩) (c_law_signed : PySem.W.codeIn K cd_law_signed "_law_signed" = true) (k_law_signed : PySem.W.keepIn K (.ref f_law_signed) = true)
    {f_law_lowest : Addr} {od_law_lowest an_law_lowest : Option Addr} {sl_law_lowest : Array (Option Value)} {oc_law_lowest kV_law_lowest dc_law_lowest pm_law_lowest cd_law_lowest ct_law_lowest : Value}
    (a_law_lowest : PySem.W.nsIn K mainGlobals "_law_lowest" = some (some (.ref f_law_lowest))) (l_law_lowest : K.lookup f_law_lowest = some ⟨oc_law_lowest, od_law_lowest, .func (PySem.W.fnOf "_law_lowest" "_law_lowest" (defArgs s_law_lowest) (defBody s_law_lowest) (defScope s_law_lowest) .none kV_law_lowest dc_law_lowest pm_law_lowest an_law_lowest cd_law_lowest ct_law_lowest), sl_law_lowest⟩) (c_law_lowest : PySem.W.codeIn K cd_law_lowest "_law_lowest" = true) (k_law_lowest : PySem.W.keepIn K (.ref f_law_lowest) = true)
    {f_law_less : Addr} {od_law_less an_law_less : Option Addr} {sl_law_less : Array (Option Value)} {oc_law_less kV_law_less dc_law_less pm_law_less cd_law_less ct_law_less : Value}
    (a_law_less : PySem.W.nsIn K mainGlobals "_law_less" = some (some (.ref f_law_less))) (l_law_less : K.lookup f_law_less = some ⟨oc_law_less, od_law_less, .func (PySem.W.fnOf "_law_less" "_law_less" (defArgs s_law_less) (defBody s_law_less) (defScope s_law_less) .none kV_law_less dc_law_less pm_law_less an_law_less cd_law_less ct_law_less), sl_law_less⟩) (c_law_less : PySem.W.codeIn K cd_law_less "_law_less" = true) (k_law_less : PySem.W.keepIn K (.ref f_law_less) = true)
    {f_law_fraction : Addr} {od_law_fraction an_law_fraction : Option Addr} {sl_law_fraction : Array (Option Value)} {oc_law_fraction kV_law_fraction dc_law_fraction pm_law_fraction cd_law_fraction ct_law_fraction : Value}
    (a_law_fraction : PySem.W.nsIn K mainGlobals "_law_fraction" = some (some (.ref f_law_fraction))) (l_law_fraction : K.lookup f_law_fraction = some ⟨oc_law_fraction, od_law_fraction, .func (PySem.W.fnOf "_law_fraction" "_law_fraction" (defArgs s_law_fraction) (defBody s_law_fraction) (defScope s_law_fraction) .none kV_law_fraction dc_law_fraction pm_law_fraction an_law_fraction cd_law_fraction ct_law_fraction), sl_law_fraction⟩) (c_law_fraction : PySem.W.codeIn K cd_law_fraction "_law_fraction" = true) (k_law_fraction : PySem.W.keepIn K (.ref f_law_fraction) = true)
    {f_law_stands : Addr} {od_law_stands an_law_stands : Option Addr} {sl_law_stands : Array (Option Value)} {oc_law_stands kV_law_stands dc_law_stands pm_law_stands cd_law_stands ct_law_stands : Value}
    (a_law_stands : PySem.W.nsIn K mainGlobals "_law_stands" = some (some (.ref f_law_stands))) (l_law_stands : K.lookup f_law_stands = some ⟨oc_law_stands, od_law_stands, .func (PySem.W.fnOf "_law_stands" "_law_stands" (defArgs s_law_stands) (defBody s_law_stands) (defScope s_law_stands) .none kV_law_stands dc_law_stands pm_law_stands an_law_stands cd_law_stands ct_law_stands), sl_law_stands⟩) (c_law_stands : PySem.W.codeIn K cd_law_stands "_law_stands" = true) (k_law_stands : PySem.W.keepIn K (.ref f_law_stands) = true)
    {f_law_other : Addr} {od_law_other an_law_other : Option Addr} {sl_law_other : Array (Option Value)} {oc_law_other kV_law_other dc_law_other pm_law_other cd_law_other ct_law_other : Value}
    (a_law_other : PySem.W.nsIn K mainGlobals "_law_other" = some (some (.ref f_law_other))) (l_law_other : K.lookup f_law_other = some ⟨oc_law_other, od_law_other, .func (PySem.W.fnOf "_law_other" "_law_other" (defArgs s_law_other) (defBody s_law_other) (defScope s_law_other) .none kV_law_other dc_law_other pm_law_other an_law_other cd_law_other ct_law_other), sl_law_other⟩) (c_law_other : PySem.W.codeIn K cd_law_other "_law_other" = true) (k_law_other : PySem.W.keepIn K (.ref f_law_other) = true)
    {f_law_deeds : Addr} {od_law_deeds an_law_deeds : Option Addr} {sl_law_deeds : Array (Option Value)} {oc_law_deeds kV_law_deeds dc_law_deeds pm_law_deeds cd_law_deeds ct_law_deeds : Value}
    (a_law_deeds : PySem.W.nsIn K mainGlobals "_law_deeds" = some (some (.ref f_law_deeds))) (l_law_deeds : K.lookup f_law_deeds = some ⟨oc_law_deeds, od_law_deeds, .func (PySem.W.fnOf "_law_deeds" "_law_deeds" (defArgs s_law_deeds) (defBody s_law_deeds) (defScope s_law_deeds) .none kV_law_deeds dc_law_deeds pm_law_deeds an_law_deeds cd_law_deeds ct_law_deeds), sl_law_deeds⟩) (c_law_deeds : PySem.W.codeIn K cd_law_deeds "_law_deeds" = true) (k_law_deeds : PySem.W.keepIn K (.ref f_law_deeds) = true)
    {f_law : Addr} {od_law an_law : Option Addr} {sl_law : Array (Option Value)} {oc_law kV_law dc_law pm_law cd_law ct_law : Value}
    (a_law : PySem.W.nsIn K mainGlobals "law" = some (some (.ref f_law))) (l_law : K.lookup f_law = some ⟨oc_law, od_law, .func (PySem.W.fnOf "law" "law" (defArgs s_law) (defBody s_law) (defScope s_law) .none kV_law dc_law pm_law an_law cd_law ct_law), sl_law⟩) (c_law : PySem.W.codeIn K cd_law "law" = true) (k_law : PySem.W.keepIn K (.ref f_law) = true)
    (z_isinstance : PySem.W.nsIn K mainGlobals "isinstance" = some none)
    (z_int : PySem.W.nsIn K mainGlobals "int" = some none)
    (z_bool : PySem.W.nsIn K mainGlobals "bool" = some none)
    (z_len : PySem.W.nsIn K mainGlobals "len" = some none)
    (z_abs : PySem.W.nsIn K mainGlobals "abs" = some none)
    (z_range : PySem.W.nsIn K mainGlobals "range" = some none)
    (z_list : PySem.W.nsIn K mainGlobals "list" = some none)
    (z_max : PySem.W.nsIn K mainGlobals "max" = some none)
    (z_tuple : PySem.W.nsIn K mainGlobals "tuple" = some none)
    (y_gcd : PySem.W.nsIn K mainGlobals "gcd" = some (some (.builtin "math.gcd")))
    : ∃ fd : FuncData, (∀ (s : Shared) (v : Value), BindsTo s fd ⟨[v], []⟩ [("script", v)]) ∧ ∀ base : Heap, K.In base → base.Ns mainGlobals mg → FnOk l.prog w K mg base CX0 5 fa fd ["script"] (spM K (fun _ => 0) m_law 1) := by
  have e := hfa.symm.trans (PySem.W.mg_of X G a_law)
  cases e
  have F_law := fun_mk (st := s_law) l_law c_law k_law
  have n_isinstance := PySem.W.mg_none_of X G z_isinstance
  have n_int := PySem.W.mg_none_of X G z_int
  have n_bool := PySem.W.mg_none_of X G z_bool
  have n_len := PySem.W.mg_none_of X G z_len
  have n_abs := PySem.W.mg_none_of X G z_abs
  have n_range := PySem.W.mg_none_of X G z_range
  have n_list := PySem.W.mg_none_of X G z_list
  have n_max := PySem.W.mg_none_of X G z_max
  have n_tuple := PySem.W.mg_none_of X G z_tuple
  have n_gcd := PySem.W.mg_of X G y_gcd
  refine ⟨PySem.W.fnOf "law" "law" (defArgs s_law) (defBody s_law) (defScope s_law) .none kV_law dc_law pm_law an_law cd_law ct_law, fun s v => .of_eq rfl, fun base _ _ => ?_⟩
  have h_ratio : Fn l.prog w K (fun _ => 0) mg base "ratio" 1 m_ratio 2 := ok_ratio ⟨f_ratio, _, fun_mk (st := s_ratio) l_ratio c_ratio k_ratio, PySem.W.mg_of X G a_ratio⟩ n_gcd
  have h_below : Fn l.prog w K (fun _ => 0) mg base "below" 1 m_below 2 := ok_below ⟨f_below, _, fun_mk (st := s_below) l_below c_below k_below, PySem.W.mg_of X G a_below⟩
  have h_law_int : Fn l.prog w K (fun _ => 0) mg base "_law_int" 1 m_law_int 1 := ok_law_int ⟨f_law_int, _, fun_mk (st := s_law_int) l_law_int c_law_int k_law_int, PySem.W.mg_of X G a_law_int⟩ n_isinstance n_int n_bool
  have h_law_state : Fn l.prog w K (fun _ => 0) mg base "_law_state" 1 m_law_state 2 := ok_law_state ⟨f_law_state, _, fun_mk (st := s_law_state) l_law_state c_law_state k_law_state, PySem.W.mg_of X G a_law_state⟩ n_len n_int n_abs
  have h_law_next : Fn l.prog w K (fun _ => 0) mg base "_law_next" 1 m_law_next 2 := ok_law_next ⟨f_law_next, _, fun_mk (st := s_law_next) l_law_next c_law_next k_law_next, PySem.W.mg_of X G a_law_next⟩ n_int
  have h_law_common : Fn l.prog w K (fun _ => 0) mg base "_law_common" 1 m_law_common 2 := ok_law_common ⟨f_law_common, _, fun_mk (st := s_law_common) l_law_common c_law_common k_law_common, PySem.W.mg_of X G a_law_common⟩ n_range n_int
  have h_plus : Fn l.prog w K (fun _ => 0) mg base "plus" 2 m_plus 2 := ok_plus ⟨f_plus, _, fun_mk (st := s_plus) l_plus c_plus k_plus, PySem.W.mg_of X G a_plus⟩ h_ratio
  have h_minus : Fn l.prog w K (fun _ => 0) mg base "minus" 2 m_minus 2 := ok_minus ⟨f_minus, _, fun_mk (st := s_minus) l_minus c_minus k_minus, PySem.W.mg_of X G a_minus⟩ h_ratio
  have h_times : Fn l.prog w K (fun _ => 0) mg base "times" 2 m_times 2 := ok_times ⟨f_times, _, fun_mk (st := s_times) l_times c_times k_times, PySem.W.mg_of X G a_times⟩ h_ratio
  have h_over : Fn l.prog w K (fun _ => 0) mg base "over" 2 m_over 2 := ok_over ⟨f_over, _, fun_mk (st := s_over) l_over c_over k_over, PySem.W.mg_of X G a_over⟩ h_ratio
  have h_law_ints : Fn l.prog w K (fun _ => 0) mg base "_law_ints" 2 m_law_ints 1 := ok_law_ints ⟨f_law_ints, _, fun_mk (st := s_law_ints) l_law_ints c_law_ints k_law_ints, PySem.W.mg_of X G a_law_ints⟩ n_isinstance n_list n_len h_law_int
  have h_law_big : Fn l.prog w K (fun _ => 0) mg base "_law_big" 2 m_law_big 2 := ok_law_big ⟨f_law_big, _, fun_mk (st := s_law_big) l_law_big c_law_big k_law_big, PySem.W.mg_of X G a_law_big⟩ n_range h_law_next
  have h_law_signed : Fn l.prog w K (fun _ => 0) mg base "_law_signed" 2 m_law_signed 2 := ok_law_signed ⟨f_law_signed, _, fun_mk (st := s_law_signed) l_law_signed c_law_signed k_law_signed, PySem.W.mg_of X G a_law_signed⟩ h_law_next
  have h_law_lowest : Fn l.prog w K (fun _ => 0) mg base "_law_lowest" 2 m_law_lowest 2 := ok_law_lowest ⟨f_law_lowest, _, fun_mk (st := s_law_lowest) l_law_lowest c_law_lowest k_law_lowest, PySem.W.mg_of X G a_law_lowest⟩ n_abs h_law_common
  have h_law_less : Fn l.prog w K (fun _ => 0) mg base "_law_less" 2 m_law_less 2 := ok_law_less ⟨f_law_less, _, fun_mk (st := s_law_less) l_law_less c_law_less k_law_less, PySem.W.mg_of X G a_law_less⟩ h_below
  have h_law_fraction : Fn l.prog w K (fun _ => 0) mg base "_law_fraction" 3 m_law_fraction 1 := ok_law_fraction ⟨f_law_fraction, _, fun_mk (st := s_law_fraction) l_law_fraction c_law_fraction k_law_fraction, PySem.W.mg_of X G a_law_fraction⟩ n_max h_law_next h_law_big h_law_signed
  have h_law_stands : Fn l.prog w K (fun _ => 0) mg base "_law_stands" 3 m_law_stands 3 := ok_law_stands ⟨f_law_stands, _, fun_mk (st := s_law_stands) l_law_stands c_law_stands k_law_stands, PySem.W.mg_of X G a_law_stands⟩ n_isinstance n_tuple n_len n_list n_abs h_law_ints h_law_common
  have h_law_other : Fn l.prog w K (fun _ => 0) mg base "_law_other" 4 m_law_other 2 := ok_law_other ⟨f_law_other, _, fun_mk (st := s_law_other) l_law_other c_law_other k_law_other, PySem.W.mg_of X G a_law_other⟩ n_abs h_law_next h_law_big h_law_signed h_law_lowest h_law_fraction
  have h_law_deeds : Fn l.prog w K (fun _ => 0) mg base "_law_deeds" 4 m_law_deeds 2 := ok_law_deeds ⟨f_law_deeds, _, fun_mk (st := s_law_deeds) l_law_deeds c_law_deeds k_law_deeds, PySem.W.mg_of X G a_law_deeds⟩ h_plus h_law_stands h_minus h_times h_over h_law_less
  exact ok_law F_law h_law_state h_law_fraction h_ratio h_law_stands h_law_lowest h_law_other h_law_deeds h_law_less
end K27

set_option exponentiation.threshold 2000
namespace K27
open PySem L2 G
local macro_rules | `(tactic| walk_at "wps") => `(tactic| try simp only [G.w_bnd, G.w_ret, G.w_ok, G.w_var, G.s_z, G.s_s, G.w_c, G.w_op, G.w_un, G.w_nil, G.w_cons, G.w_cb, G.w_call, G.w_tup, G.w_alloc, G.w_lst, G.b_bl, G.w_asBl, G.w_test, G.w_yes, G.w_and, G.w_or, G.w_not, G.w_andV, G.w_orV, G.w_notV, G.w_ifx, G.w_nop, G.i_int, G.w_part, G.w_sl, G.w_next, G.w_rt, G.w_rtN, G.w_brk, G.w_cont, G.w_drop, G.q_nx, G.q_rt, G.q_bk, G.q_ct, G.w_seq, G.w_ifS, G.w_set, G.g_some, G.w_asg, G.w_setIx, G.w_aug, G.n_rt, G.n_nx, G.w_fn, G.w_for, G.w_wseq, G.k_tup, G.k_fzl, G.k_ref, G.w_wr1, G.w_wr2, G.f_add, G.f_sub, G.f_addI, G.f_mul, G.f_div, G.f_mod, G.f_pow, G.f_neg, G.f_cmp, G.f_isB, G.f_notB, G.f_isN, G.f_notN, G.n_non, G.n_int, G.n_bl, G.n_ref, G.n_tup, G.f_eq, G.f_ne, G.ty_non, G.ty_bl, G.ty_int, G.ty_str, G.ty_tup, G.ty_fzl, G.kb_ii, G.kb_ib, G.kb_bi, G.kb_bb, G.kb_ni, G.kb_si, G.kb_li, G.kb_ti, G.kb_ll, G.kb_tl, G.kb_nl, G.kb_il, G.kb_bl, G.kb_sl, G.kb_tt, G.kb_lt, G.kb_nt, G.kb_it, G.kb_bt, G.kb_st, decide_eq_true_eq, Bool.not_eq_true', decide_eq_false_iff_not, ↓reduceIte, eq_self, Bool.false_eq_true, Bool.true_eq_false, reduceCtorEq, Bool.not_true, Bool.not_false, ne_eq, not_false_eq_true, G.f_abs, G.f_int, G.f_intB, G.f_max2, G.f_min2, G.f_gcd, G.it_tupD, G.it_fzlD, G.it_refD, G.f_ix, G.f_len, G.f_list, G.f_setItem, G.f_slF, G.f_slR, G.f_isi, G.f_app, G.w_bm, G.oq_some, G.w_lc, List.map_cons, List.map_nil, List.length_cons, List.length_nil, List.cons_append, List.nil_append, Nat.zero_add, List.replicate, Nat.sub_self, Nat.reduceAdd, Nat.reduceSub, List.set_cons_zero, List.set_cons_succ, Option.some.injEq, exists_eq_left', exists_eq_left, true_and, and_true, G.at_0, G.at_1, G.at_2, G.at_3, G.at_m1, G.ix1_0, G.ix2_0, G.ix2_1, G.ix3_0, G.ix3_1, G.ix3_2, List.length_set, List.set_set])
local macro_rules | `(tactic| walk_at "wpx") => `(tactic| try simp only [G.w_bnd, G.w_ret, G.w_ok, G.w_var, G.s_z, G.s_s, G.w_c, G.w_op, G.w_un, G.w_nil, G.w_cons, G.w_cb, G.w_call, G.w_tup, G.w_alloc, G.w_lst, G.b_bl, G.w_asBl, G.w_test, G.w_yes, G.w_and, G.w_or, G.w_not, G.w_andV, G.w_orV, G.w_notV, G.w_ifx, G.w_nop, G.i_int, G.w_part, G.w_sl, G.w_next, G.w_rt, G.w_rtN, G.w_brk, G.w_cont, G.w_drop, G.q_nx, G.q_rt, G.q_bk, G.q_ct, G.w_seq, G.w_ifS, G.w_set, G.g_some, G.w_asg, G.w_setIx, G.w_aug, G.n_rt, G.n_nx, G.w_fn, G.w_for, G.w_wseq, G.k_tup, G.k_fzl, G.k_ref, G.w_wr1, G.w_wr2, G.f_add, G.f_sub, G.f_addI, G.f_mul, G.f_div, G.f_mod, G.f_pow, G.f_neg, G.f_cmp, G.f_isB, G.f_notB, G.f_isN, G.f_notN, G.n_non, G.n_int, G.n_bl, G.n_ref, G.n_tup, G.f_eq, G.f_ne, G.ty_non, G.ty_bl, G.ty_int, G.ty_str, G.ty_tup, G.ty_fzl, G.kb_ii, G.kb_ib, G.kb_bi, G.kb_bb, G.kb_ni, G.kb_si, G.kb_li, G.kb_ti, G.kb_ll, G.kb_tl, G.kb_nl, G.kb_il, G.kb_bl, G.kb_sl, G.kb_tt, G.kb_lt, G.kb_nt, G.kb_it, G.kb_bt, G.kb_st, decide_eq_true_eq, Bool.not_eq_true', decide_eq_false_iff_not, ↓reduceIte, eq_self, Bool.false_eq_true, Bool.true_eq_false, reduceCtorEq, Bool.not_true, Bool.not_false, ne_eq, not_false_eq_true, G.f_abs, G.f_int, G.f_intB, G.f_max2, G.f_min2, G.f_gcd, G.it_tupD, G.it_fzlD, G.it_refD, G.f_ix, G.f_len, G.f_list, G.f_setItem, G.f_slF, G.f_slR, G.f_isi, G.f_app, G.w_bm, G.oq_some, G.w_lc, List.map_cons, List.map_nil, List.length_cons, List.length_nil, List.cons_append, List.nil_append, Nat.zero_add, List.replicate, Nat.sub_self, Nat.reduceAdd, Nat.reduceSub, List.set_cons_zero, List.set_cons_succ, Option.some.injEq, exists_eq_left', exists_eq_left, true_and, and_true, G.at_0, G.at_1, G.at_2, G.at_3, G.at_m1, G.ix1_0, G.ix2_0, G.ix2_1, G.ix3_0, G.ix3_1, G.ix3_2, List.length_set, List.set_set, *])
local macro_rules | `(tactic| walk_at "wpz") => `(tactic| try simp only [G.w_bnd, G.w_ret, G.w_ok, G.w_var, G.s_z, G.s_s, G.w_c, G.w_op, G.w_un, G.w_nil, G.w_cons, G.w_cb, G.w_call, G.w_tup, G.w_alloc, G.w_lst, G.b_bl, G.w_asBl, G.w_test, G.w_yes, G.w_and, G.w_or, G.w_not, G.w_andV, G.w_orV, G.w_notV, G.w_ifx, G.w_nop, G.i_int, G.w_part, G.w_sl, G.w_next, G.w_rt, G.w_rtN, G.w_brk, G.w_cont, G.w_drop, G.q_rt, G.q_bk, G.q_ct, G.w_seq, G.w_ifS, G.w_set, G.g_some, G.w_asg, G.w_setIx, G.w_aug, G.n_rt, G.n_nx, G.w_fn, G.w_for, G.w_wseq, G.k_tup, G.k_fzl, G.k_ref, G.w_wr1, G.w_wr2, G.f_add, G.f_sub, G.f_addI, G.f_mul, G.f_div, G.f_mod, G.f_pow, G.f_neg, G.f_cmp, G.f_isB, G.f_notB, G.f_isN, G.f_notN, G.n_non, G.n_int, G.n_bl, G.n_ref, G.n_tup, G.f_eq, G.f_ne, G.ty_non, G.ty_bl, G.ty_int, G.ty_str, G.ty_tup, G.ty_fzl, G.kb_ii, G.kb_ib, G.kb_bi, G.kb_bb, G.kb_ni, G.kb_si, G.kb_li, G.kb_ti, G.kb_ll, G.kb_tl, G.kb_nl, G.kb_il, G.kb_bl, G.kb_sl, G.kb_tt, G.kb_lt, G.kb_nt, G.kb_it, G.kb_bt, G.kb_st, decide_eq_true_eq, Bool.not_eq_true', decide_eq_false_iff_not, ↓reduceIte, eq_self, Bool.false_eq_true, Bool.true_eq_false, reduceCtorEq, Bool.not_true, Bool.not_false, ne_eq, not_false_eq_true, G.f_abs, G.f_int, G.f_intB, G.f_max2, G.f_min2, G.f_gcd, G.it_tupD, G.it_fzlD, G.it_refD, G.f_ix, G.f_len, G.f_list, G.f_setItem, G.f_slF, G.f_slR, G.f_isi, G.f_app, G.w_bm, G.oq_some, G.w_lc, List.map_cons, List.map_nil, List.length_cons, List.length_nil, List.cons_append, List.nil_append, Nat.zero_add, List.replicate, Nat.sub_self, Nat.reduceAdd, Nat.reduceSub, List.set_cons_zero, List.set_cons_succ, Option.some.injEq, exists_eq_left', exists_eq_left, true_and, and_true, G.at_0, G.at_1, G.at_2, G.at_3, G.at_m1, G.ix1_0, G.ix2_0, G.ix2_1, G.ix3_0, G.ix3_1, G.ix3_2, List.length_set, List.set_set])
theorem next_sp {h : Store} {st : Nat} {size : Int} (hs : StA h st) (h0 : 0 < size := by decide) (h1 : size < 2 ^ 64 := by decide) : Wp (m_law_next [.ref st, .int size] h) fun d h' => ∃ v : Int, d = .int v ∧ 0 ≤ v ∧ v < size ∧ StA h' st ∧ Ch st h h' :=
  G.next_sp hs h0 h1
theorem mul_ok {i j : Int} (hi : i.natAbs < 10 ^ 100) (hj : j.natAbs < 10 ^ 100) : mulOk i j = true := by
  have a : i.natAbs.log2 < 400 := PySem.Flt.log2_lt_of (by decide) (Nat.lt_of_lt_of_le hi (by decide +kernel))
  have b : j.natAbs.log2 < 400 := PySem.Flt.log2_lt_of (by decide) (Nat.lt_of_lt_of_le hj (by decide +kernel))
  unfold mulOk
  have : decide (i.natAbs.log2 + j.natAbs.log2 < 1000000) = true := decide_eq_true (by omega)
  rw [this]
  simp
/-- v has at most n digits -/
structure Dig (v n : Nat) : Prop where
  lt : v < 10 ^ n
theorem big_spec {h : Store} {st : Nat} {most : Nat} (hs : StA h st) (hm : 0 < most ∧ most ≤ 40) : Wp (m_law_big [.ref st, .int (most : Int)] h) fun d h' => ∃ v : Nat, d = .int (v : Int) ∧ Dig v most ∧ StA h' st ∧ Ch st h h' := by
  unfold m_law_big m_law_big_b
  walk_at "wps"
  refine (next_sp hs (by omega) (by omega)).imp ?_
  rintro _ h1 ⟨v, rfl, v0, v1, s1, c1⟩
  walk_at "wps"
  refine ⟨_, rfl, by omega, by omega, ?_⟩
  refine for_inv (fun k ρ h' => ∃ (c : Nat) (d3 : Option D), ρ = [some (.ref st), some (.int most), some (.int (c : Int)), d3] ∧ Dig c k ∧ StA h' st ∧ Ch st h h') ⟨0, none, rfl, ⟨by decide⟩, s1, c1⟩ (fun _ _ _ _ _ => rfl) ?_ ?_
  · rintro k d _ h2 hd ⟨c, d3, rfl, hc, s2, c2⟩
    obtain ⟨hk, rfl⟩ := rng_get hd
    have hk40 : k < 40 := by clear hc; omega
    have m1 : mulOk (c : Int) 10 = true := mul_small' (by decide)
    show goQ (some _) _
    walk_at "wps"
    refine ⟨m1, (next_sp s2).imp ?_⟩
    rintro _ h3 ⟨w, rfl, w0, w1, s3, c3⟩
    walk_at "wps"
    refine ⟨c * 10 + w.toNat, some (.int (0 + (k : Int))), ?_, ?_, s3, c2.trans c3⟩
    · have e : (((c * 10 + w.toNat : Nat)) : Int) = (c : Int) * 10 + w := by clear hc; omega
      rw [e]
    · have := hc.lt
      constructor
      rw [Nat.pow_succ]
      omega
  · rintro _ h2 ⟨c, d3, rfl, hc, s2, c2⟩
    walk_at "wps"
    rw [rng_len] at hc
    exact ⟨c, rfl, ⟨Nat.lt_of_lt_of_le hc.lt (Nat.pow_le_pow_right (by decide) (by omega))⟩, s2, c2⟩
theorem signed_spec {h : Store} {st : Nat} {x : Int} (hs : StA h st) : Wp (m_law_signed [.ref st, .int x] h) fun d h' => ∃ v : Int, d = .int v ∧ v.natAbs = x.natAbs ∧ StA h' st ∧ Ch st h h' := by
  unfold m_law_signed m_law_signed_b
  walk_at "wps"
  refine (next_sp hs).imp ?_
  rintro _ h1 ⟨v, rfl, v0, v1, s1, c1⟩
  walk_at "wps"
  split
  · exact ⟨_, rfl, by omega, s1, c1⟩
  · exact ⟨_, rfl, rfl, s1, c1⟩
/-- a fraction's list -/
def FracAt (h : Store) (st n : Nat) (p q : Int) : Prop := getL h n = some [.int p, .int q] ∧ p.natAbs < 10 ^ 40 ∧ q.natAbs < 10 ^ 40 ∧ q ≠ 0 ∧ n ≠ st
theorem frac_end {h h' : Store} {st : Nat} {p q : Int} (s : StA h' st) (c : Ch st h h') (hp : p.natAbs < 10 ^ 40) (hq : q.natAbs < 10 ^ 40) (h0 : q ≠ 0) :
    2 ≤ sizeLine ∧ ∃ n p' q', D.ref h'.length = .ref n ∧ FracAt (h' ++ [.lst [.int p, .int q]]) st n p' q' ∧ StA (h' ++ [.lst [.int p, .int q]]) st ∧ Ch st h (h' ++ [.lst [.int p, .int q]]) := by
  refine ⟨line_small (by decide), _, p, q, rfl, ⟨getL_new, hp, hq, h0, ?_⟩, s.app, c.trans Ch.app⟩
  obtain ⟨_, _, _, e⟩ := s
  have := getL_lt e
  omega
theorem fraction_spec {h : Store} {st : Nat} (hs : StA h st) : Wp (m_law_fraction [.ref st] h) fun d h' => ∃ n p q, d = .ref n ∧ FracAt h' st n p q ∧ StA h' st ∧ Ch st h h' := by
  unfold m_law_fraction m_law_fraction_b
  walk_at "wpz"
  refine (next_sp hs).imp ?_
  rintro _ h1 ⟨kind, rfl, v0, v1, s1, c1⟩
  rw [q_nx, w_seq]
  walk_at "wpz"
  split
  · refine (big_spec (most := 19) s1 (by decide)).imp ?_
    rintro _ h2 ⟨a, rfl, ⟨a1⟩, s2, c2⟩
    walk_at "wps"
    refine (big_spec (most := 20) s2 (by decide)).imp ?_
    rintro _ h3 ⟨b, rfl, ⟨b1⟩, s3, c3⟩
    have m1 : mulOk (1 + (a : Int)) (b : Int) = true := mul_ok (by omega) (by omega)
    walk_at "wps"
    refine ⟨m1, (signed_spec s3).imp ?_⟩
    rintro _ h4 ⟨p, rfl, p1, s4, c4⟩
    walk_at "wps"
    refine (big_spec (most := 19) s4 (by decide)).imp ?_
    rintro _ h5 ⟨c, rfl, ⟨d1⟩, s5, c5⟩
    have m2 : mulOk (1 + (a : Int)) (1 + (c : Int)) = true := mul_ok (by omega) (by omega)
    walk_at "wps"
    refine ⟨m2, (signed_spec s5).imp ?_⟩
    rintro _ h6 ⟨q, rfl, q1, s6, c6⟩
    walk_at "wps"
    refine frac_end s6 (((((c1.trans c2).trans c3).trans c4).trans c5).trans c6) ?_ ?_ ?_
    · rw [p1, Int.natAbs_mul]
      have x1 : (1 + (a : Int)).natAbs ≤ 10 ^ 19 := by omega
      have x2 : ((b : Int)).natAbs < 10 ^ 20 := by omega
      calc (1 + (a : Int)).natAbs * ((b : Int)).natAbs ≤ 10 ^ 19 * ((b : Int)).natAbs := Nat.mul_le_mul_right _ x1
        _ ≤ 10 ^ 19 * 10 ^ 20 := Nat.mul_le_mul_left _ (Nat.le_of_lt x2)
        _ < 10 ^ 40 := by decide
    · rw [q1, Int.natAbs_mul]
      have x1 : (1 + (a : Int)).natAbs ≤ 10 ^ 19 := by omega
      have x2 : (1 + (c : Int)).natAbs ≤ 10 ^ 19 := by omega
      calc (1 + (a : Int)).natAbs * (1 + (c : Int)).natAbs ≤ 10 ^ 19 * (1 + (c : Int)).natAbs := Nat.mul_le_mul_right _ x1
        _ ≤ 10 ^ 19 * 10 ^ 19 := Nat.mul_le_mul_left _ x2
        _ < 10 ^ 40 := by decide
    · intro z
      rw [z, Int.natAbs_mul] at q1
      have x1 : 0 < (1 + (a : Int)).natAbs := by omega
      have x2 : 0 < (1 + (c : Int)).natAbs := by omega
      have := Nat.mul_pos x1 x2
      simp only [Int.natAbs_zero] at q1
      omega
  · rw [q_nx, w_seq]
    walk_at "wpz"
    split
    · refine (next_sp s1).imp ?_
      rintro _ h2 ⟨a, rfl, a0, a1, s2, c2⟩
      walk_at "wps"
      refine (signed_spec s2).imp ?_
      rintro _ h3 ⟨p, rfl, p1, s3, c3⟩
      walk_at "wps"
      refine (next_sp s3).imp ?_
      rintro _ h4 ⟨b, rfl, b0, b1, s4, c4⟩
      walk_at "wps"
      refine (signed_spec s4).imp ?_
      rintro _ h5 ⟨q, rfl, q1, s5, c5⟩
      walk_at "wps"
      exact frac_end s5 ((((c1.trans c2).trans c3).trans c4).trans c5) (by omega) (by omega) (by omega)
    · rw [q_nx, w_seq]
      walk_at "wpz"
      refine (big_spec (most := 40) s1 (by decide)).imp ?_
      rintro _ h2 ⟨a, rfl, ⟨a1⟩, s2, c2⟩
      walk_at "wpz"
      refine (signed_spec s2).imp ?_
      rintro _ h3 ⟨p, rfl, p1, s3, c3⟩
      rw [q_nx, w_seq]
      walk_at "wpz"
      refine (big_spec (most := 40) s3 (by decide)).imp ?_
      rintro _ h4 ⟨b, rfl, ⟨b1⟩, s4, c4⟩
      walk_at "wpz"
      refine (signed_spec s4).imp ?_
      rintro _ h5 ⟨q, rfl, q1, s5, c5⟩
      have q2 : q.natAbs < 10 ^ 40 ∧ q ≠ 0 := by
        split at q1 <;> omega
      rw [q_nx, w_seq]
      walk_at "wpz"
      have c5' := (((c1.trans c2).trans c3).trans c4).trans c5
      have rest : ∀ (q : Int) (h6 : Store), q.natAbs < 10 ^ 40 ∧ q ≠ 0 → StA h6 st → Ch st h h6 →
          Wp (mSeq (mIfS (mAnd (mTest (mOp (fEq false) (mVar 1) (mC (.int 4)))) (mTest (mOp (fEq false) (mCall 2 m_law_next (mCons (mVar 0) (mCons (mC (.int 2)) mNil))) (mC (.int 0))))) (mSet 3 (mC (.int 0))) mNext)
            (mRet (mLst (mCons (mVar 3) (mCons (mVar 4) mNil)))) [some (.ref st), some (.int kind), none, some (.int p), some (.int q)] h6) (endQ fun d h' => ∃ n p q, d = .ref n ∧ FracAt h' st n p q ∧ StA h' st ∧ Ch st h h') := by
        intro q h6 hq s6 c6
        walk_at "wps"
        split
        · refine (next_sp s6).imp ?_
          rintro _ h7 ⟨z, rfl, z0, z1, s7, c7⟩
          walk_at "wps"
          split
          · exact frac_end s7 (c6.trans c7) (by decide) hq.1 hq.2
          · exact frac_end s7 (c6.trans c7) (by omega) hq.1 hq.2
        · exact frac_end s6 c6 (by omega) hq.1 hq.2
      split
      · refine (signed_spec s5).imp ?_
        rintro _ h6 ⟨q', rfl, q1', s6, c6⟩
        rw [q_nx]
        exact rest q' h6 (by omega) s6 (c5'.trans c6)
      · rw [q_nx]
        exact rest q h5 q2 s5 c5'

/-! ### Euclid -/
/-- two neighbouring numbers of Fibonacci -/
def fibp : Nat → Nat × Nat
  | 0 => (0, 1)
  | n + 1 => ((fibp n).2, (fibp n).1 + (fibp n).2)
def fib (n : Nat) : Nat := (fibp n).1
theorem fib_two (n : Nat) : fib (n + 2) = fib n + fib (n + 1) := rfl
def eucl : Nat → Nat → Nat → Option Nat
  | 0, _, _ => none
  | n + 1, a, b => if b = 0 then some a else eucl n b (a % b)
theorem eucl_more : ∀ (n : Nat) {a b g : Nat}, eucl n a b = some g → eucl (n + 1) a b = some g
  | 0, _, _, _, h => by cases h
  | n + 1, a, b, g, h => by
    unfold eucl at h ⊢
    split
    · next z => rw [if_pos z] at h; exact h
    · next z => rw [if_neg z] at h; exact eucl_more n h
theorem eucl_mono {n m : Nat} {a b g : Nat} (h : eucl n a b = some g) (l : n ≤ m) : eucl m a b = some g := by
  induction l with
  | refl => exact h
  | step _ ih => exact eucl_more _ ih
theorem eucl_gcd : ∀ (n : Nat) {a b g : Nat}, eucl n a b = some g → g = Nat.gcd a b
  | 0, _, _, _, h => by cases h
  | n + 1, a, b, g, h => by
    unfold eucl at h
    split at h
    · next z => subst z; cases h; exact (Nat.gcd_zero_right a).symm
    · next z => rw [eucl_gcd n h, Nat.gcd_comm b, ← Nat.gcd_rec b a, Nat.gcd_comm]
theorem lame : ∀ (k : Nat) {a b : Nat}, b < a → b < fib (k + 1) → ∃ g, eucl (k + 1) a b = some g
  | 0, a, b, _, h => by
    have : b = 0 := by
      have e : fib (0 + 1) = 1 := rfl
      omega
    exact ⟨a, by unfold eucl; rw [if_pos this]⟩
  | 1, a, b, _, h => by
    have : b = 0 := by
      have e : fib (1 + 1) = 1 := rfl
      omega
    exact ⟨a, by unfold eucl; rw [if_pos this]⟩
  | k + 2, a, b, hab, h => by
    by_cases hb : b = 0
    · exact ⟨a, by unfold eucl; rw [if_pos hb]⟩
    · have hr : a % b < b := Nat.mod_lt _ (by omega)
      by_cases h1 : a % b < fib (k + 2)
      · obtain ⟨g, e⟩ := lame (k + 1) hr h1
        exact ⟨g, by unfold eucl; rw [if_neg hb]; exact e⟩
      · have hr0 : a % b ≠ 0 := fun z => by
          have : 0 < fib (k + 2) := by
            have pos : ∀ n, 0 < fib (n + 1) := by
              intro n
              induction n with
              | zero => decide
              | succ n ih => rw [show n + 1 + 1 = n + 2 from rfl, fib_two]; omega
            exact pos (k + 1)
          omega
        have hs : b % (a % b) < a % b := Nat.mod_lt _ (by omega)
        have h2 : b % (a % b) < fib (k + 1) := by
          have e := fib_two (k + 1)
          have l : b % (a % b) ≤ b - a % b := by
            rw [Nat.mod_eq_sub_mod (Nat.le_of_lt hr)]
            exact Nat.mod_le _ _
          have e2 : fib (k + 1 + 2) = fib (k + 2 + 1) := rfl
          have e3 : fib (k + 1 + 1) = fib (k + 2) := rfl
          omega
        obtain ⟨g, e⟩ := lame k hs h2
        exact ⟨g, by unfold eucl; rw [if_neg hb]; unfold eucl; rw [if_neg hr0]; exact e⟩
theorem fib_big : 10 ^ 100 < fib 498 := by decide +kernel
theorem eucl_500 {a b : Nat} (ha : a < 10 ^ 100) (hb : b < 10 ^ 100) : eucl 500 a b = some (Nat.gcd a b) := by
  have key : ∃ g, eucl 499 b (a % b) = some g ∨ b = 0 := by
    by_cases z : b = 0
    · exact ⟨0, .inr z⟩
    · obtain ⟨g, e⟩ := lame 497 (Nat.mod_lt a (by omega)) (Nat.lt_trans (Nat.lt_of_lt_of_le (Nat.mod_lt a (by omega)) (Nat.le_of_lt hb)) fib_big)
      exact ⟨g, .inl (eucl_mono e (by omega))⟩
  obtain ⟨g, e | e⟩ := key
  · by_cases z : b = 0
    · subst z
      unfold eucl
      rw [if_pos rfl, Nat.gcd_zero_right]
    · have : eucl 500 a b = some g := by unfold eucl; rw [if_neg z]; exact e
      rw [this, eucl_gcd 500 this]
  · subst e
    unfold eucl
    rw [if_pos rfl, Nat.gcd_zero_right]
theorem common_spec {h : Store} {a b : Nat} (ha : a < 10 ^ 100) (hb : b < 10 ^ 100) : Wp (m_law_common [.int (a : Int), .int (b : Int)] h) fun d h' => d = .int ((Nat.gcd a b : Nat) : Int) ∧ h = h' := by
  have e := eucl_500 ha hb
  unfold m_law_common m_law_common_b
  walk_at "wps"
  refine ⟨_, rfl, by decide, by decide, ?_⟩
  refine for_inv (fun k ρ h' => h' = h ∧ ∃ (x y : Nat) (d2 d3 : Option D), ρ = [some (.int (x : Int)), some (.int (y : Int)), d2, d3] ∧ eucl (500 - k) x y = some (Nat.gcd a b)) ⟨rfl, a, b, none, none, rfl, e⟩ (fun _ _ _ _ _ => rfl) ?_ ?_
  · rintro k d _ _ hd ⟨rfl, x, y, d2, d3, rfl, he⟩
    obtain ⟨hk, rfl⟩ := rng_get hd
    have hk : k < 500 := hk
    obtain ⟨m, hm⟩ : ∃ m, 500 - k = m + 1 := ⟨499 - k, by omega⟩
    have hm2 : 500 - (k + 1) = m := by omega
    rw [hm] at he
    unfold eucl at he
    show goQ (some _) _
    walk_at "wps"
    split
    · next z =>
      have z' : y = 0 := by omega
      rw [if_pos z'] at he
      cases he
      first | exact ⟨rfl, rfl⟩ | exact rfl
    · next z =>
      have z' : y ≠ 0 := by omega
      rw [if_neg z'] at he
      refine ⟨z, ?_⟩
      rw [hm2]
      refine ⟨y, x % y, some (.int (0 + (k : Int))), some (.int ((x % y : Nat) : Int)), ?_, he⟩
      rw [Int.fmod_eq_emod_of_nonneg _ (by omega)]
      rfl
  · rintro _ _ ⟨rfl, x, y, d2, d3, rfl, he⟩
    rw [rng_len] at he
    have : eucl (500 - (500 : Int).toNat) x y = none := rfl
    rw [this] at he
    cases he

/-! ### fractions -/
/-- p over q in lowest terms -/
def num (p q : Int) : Int := p.fdiv (if q < 0 then -((Nat.gcd p.natAbs q.natAbs : Nat) : Int) else ((Nat.gcd p.natAbs q.natAbs : Nat) : Int))
def den (p q : Int) : Int := q.fdiv (if q < 0 then -((Nat.gcd p.natAbs q.natAbs : Nat) : Int) else ((Nat.gcd p.natAbs q.natAbs : Nat) : Int))
/-- what is asked of a told ratio -/
structure Low (a b p q : Int) : Prop where
  pos : 0 < b
  eq : a * q = p * b
  co : Nat.gcd a.natAbs b.natAbs = 1
  le : a.natAbs ≤ p.natAbs
  le' : b.natAbs ≤ q.natAbs
theorem gcd_pos {p q : Int} (h : q ≠ 0) : 0 < Nat.gcd p.natAbs q.natAbs := Nat.gcd_pos_of_pos_right _ (by omega)
theorem fdiv_mul {x : Int} {y : Int} {g : Int} (h : x = y * g) (hg : g ≠ 0) : x.fdiv g = y := by
  rw [h, Int.mul_fdiv_cancel _ hg]
/-- p = a g, q = b g, up to the common sign s -/
theorem low_of {p q : Int} (h : q ≠ 0) : ∃ a b : Int, p = a * ((Nat.gcd p.natAbs q.natAbs : Nat) : Int) ∧ q = b * ((Nat.gcd p.natAbs q.natAbs : Nat) : Int) ∧ Nat.gcd a.natAbs b.natAbs = 1 ∧ a.natAbs ≤ p.natAbs ∧ b.natAbs ≤ q.natAbs ∧ (0 < b ↔ 0 < q) ∧ b ≠ 0 := by
  have g0 := gcd_pos (p := p) h
  obtain ⟨a, ha⟩ : ((Nat.gcd p.natAbs q.natAbs : Nat) : Int) ∣ p := Int.ofNat_dvd_left.mpr (Nat.gcd_dvd_left _ _)
  obtain ⟨b, hb⟩ : ((Nat.gcd p.natAbs q.natAbs : Nat) : Int) ∣ q := Int.ofNat_dvd_left.mpr (Nat.gcd_dvd_right _ _)
  generalize hg : Nat.gcd p.natAbs q.natAbs = g at *
  have ha' : p.natAbs = g * a.natAbs := by rw [ha, Int.natAbs_mul, Int.natAbs_natCast]
  have hb' : q.natAbs = g * b.natAbs := by rw [hb, Int.natAbs_mul, Int.natAbs_natCast]
  have co : Nat.gcd a.natAbs b.natAbs = 1 := by
    rw [ha', hb', Nat.gcd_mul_left] at hg
    exact Nat.eq_of_mul_eq_mul_left g0 (by rw [hg, Nat.mul_one])
  refine ⟨a, b, by rw [Int.mul_comm]; exact ha, by rw [Int.mul_comm]; exact hb, co, ?_, ?_, ?_, ?_⟩
  · rw [ha']; exact Nat.le_mul_of_pos_left _ g0
  · rw [hb']; exact Nat.le_mul_of_pos_left _ g0
  · rw [hb]
    constructor
    · intro z; exact Int.mul_pos (by omega) z
    · intro z
      rcases Int.lt_trichotomy b 0 with w | w | w
      · have := Int.mul_neg_of_pos_of_neg (a := (g : Int)) (by omega) w
        omega
      · subst w; simp at z
      · exact w
  · intro z
    subst z
    simp at hb
    exact h hb
theorem low_rat {p q : Int} (h : q ≠ 0) : Low (num p q) (den p q) p q := by
  obtain ⟨a, b, ha, hb, co, la, lb, hp, b0⟩ := low_of (p := p) h
  have g0 := gcd_pos (p := p) h
  unfold num den
  generalize Nat.gcd p.natAbs q.natAbs = g at *
  have gz : (g : Int) ≠ 0 := by omega
  by_cases hq : q < 0
  · rw [if_pos hq]
    have e1 : p.fdiv (-(g : Int)) = -a := fdiv_mul (by rw [Int.neg_mul_neg]; exact ha) (by omega)
    have e2 : q.fdiv (-(g : Int)) = -b := fdiv_mul (by rw [Int.neg_mul_neg]; exact hb) (by omega)
    rw [e1, e2]
    refine ⟨by omega, ?_, by rw [Int.natAbs_neg, Int.natAbs_neg]; exact co, by rw [Int.natAbs_neg]; exact la, by rw [Int.natAbs_neg]; exact lb⟩
    conv => lhs; rw [hb]
    conv => rhs; rw [ha]
    rw [Int.neg_mul, Int.mul_neg, Int.mul_comm b, ← Int.mul_assoc]
  · rw [if_neg hq]
    have e1 : p.fdiv (g : Int) = a := fdiv_mul ha gz
    have e2 : q.fdiv (g : Int) = b := fdiv_mul hb gz
    rw [e1, e2]
    refine ⟨by omega, ?_, co, la, lb⟩
    conv => lhs; rw [hb]
    conv => rhs; rw [ha]
    rw [Int.mul_comm b, ← Int.mul_assoc]
theorem log_ok {j : Int} (h : j.natAbs < 10 ^ 100) : j.natAbs.log2 < 9000 := Nat.lt_of_lt_of_le (PySem.Flt.log2_lt_of (k := 400) (by decide) (Nat.lt_of_lt_of_le h (by decide +kernel))) (by decide)
theorem gcd_le {p q : Int} (h : q ≠ 0) (hq : q.natAbs < 10 ^ 100) : Nat.gcd p.natAbs q.natAbs < 10 ^ 100 := Nat.lt_of_le_of_lt (Nat.gcd_le_right _ (by omega)) hq
theorem ratio_spec {h : Store} {p q : Int} (h0 : q ≠ 0) (hq : q.natAbs < 10 ^ 100) : Wp (m_ratio [.int p, .int q] h) fun d h' => d = .tup [.int (num p q), .int (den p q)] ∧ h = h' := by
  have g0 := gcd_pos (p := p) h0
  have gl := gcd_le (p := p) h0 hq
  unfold m_ratio m_ratio_b
  walk_at "wpz"
  rw [q_nx, w_seq]
  walk_at "wps"
  unfold num den
  generalize hg : Nat.gcd p.natAbs q.natAbs = g at *
  split
  · next hn =>
    refine ⟨⟨by omega, log_ok (by omega)⟩, ⟨by omega, log_ok (by omega)⟩, line_small (by decide), rfl⟩
  · next hn =>
    refine ⟨⟨by omega, log_ok (by omega)⟩, ⟨by omega, log_ok (by omega)⟩, line_small (by decide), rfl⟩
theorem abs_int (x : Int) : (if x < 0 then -x else x) = (x.natAbs : Int) := by split <;> omega
theorem lowest_spec {h : Store} {p q : Int} (h0 : q ≠ 0) (hp : p.natAbs < 10 ^ 100) (hq : q.natAbs < 10 ^ 100) : Wp (m_law_lowest [.int p, .int q] h) fun d h' => ∃ a b, d = .tup [.int a, .int b] ∧ Low a b p q ∧ h = h' := by
  have g0 := gcd_pos (p := p) h0
  have gl := gcd_le (p := p) h0 hq
  unfold m_law_lowest m_law_lowest_b
  walk_at "wpz"
  rw [abs_int, abs_int]
  refine (common_spec hp hq).imp ?_
  rintro _ _ ⟨rfl, rfl⟩
  rw [q_nx, w_seq]
  walk_at "wps"
  have lw := low_rat (p := p) h0
  unfold num den at lw
  generalize hg : Nat.gcd p.natAbs q.natAbs = g at *
  have hz : (g : Int) ≠ 0 ∧ (g : Int).natAbs.log2 < 9000 := ⟨by omega, log_ok (by omega)⟩
  split
  · next hn =>
    rw [if_pos hn] at lw
    have sg : ∀ x : Int, 0 - x.fdiv (g : Int) = x.fdiv (-(g : Int)) ∨ True := fun _ => .inr trivial
    obtain ⟨a, b, ha, hb, _⟩ := low_of (p := p) h0
    rw [hg] at ha hb
    have e1 : p.fdiv (-(g : Int)) = -a := fdiv_mul (by rw [Int.neg_mul_neg]; exact ha) (by omega)
    have e2 : q.fdiv (-(g : Int)) = -b := fdiv_mul (by rw [Int.neg_mul_neg]; exact hb) (by omega)
    have e3 : p.fdiv (g : Int) = a := fdiv_mul ha hz.1
    have e4 : q.fdiv (g : Int) = b := fdiv_mul hb hz.1
    rw [e1, e2] at lw
    rw [e3, e4]
    refine ⟨hz, hz, line_small (by decide), 0 - a, 0 - b, rfl, ?_⟩
    rw [Int.zero_sub, Int.zero_sub]
    exact lw
  · next hn =>
    rw [if_neg hn] at lw
    exact ⟨hz, hz, line_small (by decide), _, _, rfl, lw⟩

/-! ### what the law asks -/
theorem lints_sp {h : Store} {n : Nat} {zs : List Int} (e : getL h n = some (zs.map D.int)) (hz : zs.length ≤ 1000000) : Wp (m_law_ints [.ref n] h) fun d h' => d = .bl true ∧ h' = h ++ [.lst []] := G.lints_spec e hz
theorem stands_spec {h : Store} {a b p q : Int} (hl : Low a b p q) (hp : p.natAbs < 10 ^ 90) (hq : q.natAbs < 10 ^ 90) : Wp (m_law_stands [.tup [.int a, .int b], .int p, .int q] h) fun d h' => d = .bl true ∧ ∃ l, h' = h ++ l := by
  have m1 : mulOk a q = true := mul_ok (by have := hl.le; omega) (by omega)
  have m2 : mulOk p b = true := mul_ok (by omega) (by have := hl.le'; omega)
  have hb := hl.pos
  have he := hl.eq
  have hb' : ¬ b ≤ 0 := by omega
  unfold m_law_stands m_law_stands_b
  walk_at "wpz"
  refine (lints_sp (zs := [a, b]) getL_new (by simp)).imp ?_
  rintro _ _ ⟨rfl, rfl⟩
  walk_at "wpz"
  rw [q_nx, w_seq]
  walk_at "wpz"
  simp only [hb', if_false, m1, m2, he, true_and]
  walk_at "wpz"
  rw [q_nx]
  walk_at "wps"
  rw [abs_int]
  have e2 : b = ((b.natAbs : Nat) : Int) := by omega
  have hc := common_spec (h := h ++ [.lst [.int a, .int b]] ++ [.lst []]) (a := a.natAbs) (b := b.natAbs) (by have := hl.le; omega) (by have := hl.le'; omega)
  rw [← e2, hl.co] at hc
  refine hc.imp ?_
  rintro _ _ ⟨rfl, rfl⟩
  walk_at "wps"
  exact ⟨by simp, [.lst [.int a, .int b]] ++ [.lst []], by rw [List.append_assoc]⟩
/-- a ratio's parts -/
structure Rat40 (a b : Int) : Prop where
  pos : 0 < b
  la : a.natAbs < 10 ^ 40
  lb : b.natAbs < 10 ^ 40
theorem m40 {a b : Int} (ha : a.natAbs < 10 ^ 40) (hb : b.natAbs < 10 ^ 40) : (a * b).natAbs < 10 ^ 80 := by
  rw [Int.natAbs_mul]
  exact Nat.lt_of_lt_of_le (Nat.mul_lt_mul'' ha hb) (by decide)
theorem below_spec {h : Store} {a b c d : Int} (hx : Rat40 a b) (hy : Rat40 c d) : Wp (m_below [.tup [.int a, .int b], .tup [.int c, .int d]] h) fun z h' => z = .bl (decide (a * d < c * b)) ∧ h = h' := by
  have m1 : mulOk a d = true := mul_ok (by have := hx.la; omega) (by have := hy.lb; omega)
  have m2 : mulOk c b = true := mul_ok (by have := hy.la; omega) (by have := hx.lb; omega)
  unfold m_below m_below_b
  walk_at "wpx"
theorem less_spec {h : Store} {a b c d : Int} (hx : Rat40 a b) (hy : Rat40 c d) : Wp (m_law_less [.tup [.int a, .int b], .tup [.int c, .int d]] h) fun z h' => z = .bl true ∧ h = h' := by
  have m1 : mulOk a d = true := mul_ok (by have := hx.la; omega) (by have := hy.lb; omega)
  have m2 : mulOk c b = true := mul_ok (by have := hy.la; omega) (by have := hx.lb; omega)
  unfold m_law_less m_law_less_b
  walk_at "wpz"
  simp only [m1, m2, true_and]
  split
  · next hlt =>
    refine (below_spec hx hy).imp ?_
    rintro _ _ ⟨rfl, rfl⟩
    walk_at "wps"
    simp [hlt]
  · next hlt =>
    rw [q_nx]
    walk_at "wps"
    refine (below_spec hx hy).imp ?_
    rintro _ _ ⟨rfl, rfl⟩
    walk_at "wps"
    simp [hlt]
section
variable {h : Store} {a b c d : Int} (hx : Rat40 a b) (hy : Rat40 c d)
include hx hy
theorem bot : b * d ≠ 0 ∧ (b * d).natAbs < 10 ^ 80 := ⟨Int.ne_of_gt (Int.mul_pos hx.pos hy.pos), m40 hx.lb hy.lb⟩
theorem oks : mulOk a d = true ∧ mulOk c b = true ∧ mulOk b d = true ∧ mulOk a c = true ∧ mulOk b c = true := by
  have h1 := hx.la
  have h2 := hx.lb
  have h3 := hy.la
  have h4 := hy.lb
  exact ⟨mul_ok (by omega) (by omega), mul_ok (by omega) (by omega), mul_ok (by omega) (by omega), mul_ok (by omega) (by omega), mul_ok (by omega) (by omega)⟩
theorem plus_spec : Wp (m_plus [.tup [.int a, .int b], .tup [.int c, .int d]] h) fun z h' => z = .tup [.int (num (a * d + c * b) (b * d)), .int (den (a * d + c * b) (b * d))] ∧ h = h' := by
  obtain ⟨o1, o2, o3, o4, o5⟩ := oks hx hy
  obtain ⟨b1, b2⟩ := bot hx hy
  unfold m_plus m_plus_b
  walk_at "wpx"
  exact ratio_spec b1 (by omega)
theorem minus_spec : Wp (m_minus [.tup [.int a, .int b], .tup [.int c, .int d]] h) fun z h' => z = .tup [.int (num (a * d - c * b) (b * d)), .int (den (a * d - c * b) (b * d))] ∧ h = h' := by
  obtain ⟨o1, o2, o3, o4, o5⟩ := oks hx hy
  obtain ⟨b1, b2⟩ := bot hx hy
  unfold m_minus m_minus_b
  walk_at "wpx"
  exact ratio_spec b1 (by omega)
theorem times_spec : Wp (m_times [.tup [.int a, .int b], .tup [.int c, .int d]] h) fun z h' => z = .tup [.int (num (a * c) (b * d)), .int (den (a * c) (b * d))] ∧ h = h' := by
  obtain ⟨o1, o2, o3, o4, o5⟩ := oks hx hy
  obtain ⟨b1, b2⟩ := bot hx hy
  unfold m_times m_times_b
  walk_at "wpx"
  exact ratio_spec b1 (by omega)
theorem over_spec (hc : c ≠ 0) : Wp (m_over [.tup [.int a, .int b], .tup [.int c, .int d]] h) fun z h' => z = .tup [.int (num (a * d) (b * c)), .int (den (a * d) (b * c))] ∧ h = h' := by
  obtain ⟨o1, o2, o3, o4, o5⟩ := oks hx hy
  have b1 : b * c ≠ 0 := Int.mul_ne_zero (by have := hx.pos; omega) hc
  have b2 := m40 hx.lb hy.la
  unfold m_over m_over_b
  walk_at "wpx"
  exact ratio_spec b1 (by omega)
theorem deeds_spec : Wp (m_law_deeds [.tup [.int a, .int b], .tup [.int c, .int d]] h) fun z h' => z = .bl true ∧ ∃ l, h' = h ++ l := by
  obtain ⟨o1, o2, o3, o4, o5⟩ := oks hx hy
  obtain ⟨b1, b2⟩ := bot hx hy
  have k1 := m40 hx.la hy.lb
  have k2 := m40 hy.la hx.lb
  have k3 := m40 hx.la hy.la
  unfold m_law_deeds m_law_deeds_b
  walk_at "wpz"
  simp only [o3, true_and]
  rw [q_nx, w_seq]
  walk_at "wpz"
  refine (plus_spec hx hy).imp ?_
  rintro _ _ ⟨rfl, rfl⟩
  walk_at "wpz"
  simp only [o1, o2, true_and]
  walk_at "wpz"
  refine (stands_spec (low_rat b1) (by omega) (by omega)).imp ?_
  rintro _ _ ⟨rfl, l1, rfl⟩
  walk_at "wpz"
  rw [q_nx, w_seq]
  walk_at "wpz"
  refine (minus_spec hx hy).imp ?_
  rintro _ _ ⟨rfl, rfl⟩
  walk_at "wpz"
  simp only [o1, o2, true_and]
  walk_at "wpz"
  refine (stands_spec (low_rat b1) (by omega) (by omega)).imp ?_
  rintro _ _ ⟨rfl, l2, rfl⟩
  walk_at "wpz"
  rw [q_nx, w_seq]
  walk_at "wpz"
  refine (times_spec hx hy).imp ?_
  rintro _ _ ⟨rfl, rfl⟩
  walk_at "wpz"
  simp only [o4, true_and]
  walk_at "wpz"
  refine (stands_spec (low_rat b1) (by omega) (by omega)).imp ?_
  rintro _ _ ⟨rfl, l3, rfl⟩
  walk_at "wpz"
  rw [q_nx, w_seq]
  walk_at "wpz"
  have last : ∀ l, Wp ((mRet (mCall 2 m_law_less (mCons (mVar 0) (mCons (mVar 1) mNil)))) [some (D.tup [.int a, .int b]), some (D.tup [.int c, .int d]), some (D.int (b * d))] (h ++ l)) (endQ fun z h' => z = .bl true ∧ ∃ l, h' = h ++ l) := fun l => by
    walk_at "wps"
    refine (less_spec hx hy).imp ?_
    rintro _ _ ⟨rfl, rfl⟩
    exact ⟨rfl, l, rfl⟩
  by_cases hc : c = 0
  · simp only [hc, not_true_eq_false, if_false]
    rw [q_nx]
    have := last (l1 ++ l2 ++ l3)
    rw [hc] at this
    simpa [List.append_assoc] using this
  · simp only [hc, not_false_eq_true, if_true]
    have b3 : b * c ≠ 0 := Int.mul_ne_zero (by have := hx.pos; omega) hc
    have b4 := m40 hx.lb hy.la
    refine (over_spec hx hy hc).imp ?_
    rintro _ _ ⟨rfl, rfl⟩
    walk_at "wpz"
    simp only [o1, o5, true_and]
    walk_at "wpz"
    refine (stands_spec (low_rat b3) (by omega) (by omega)).imp ?_
    rintro _ _ ⟨rfl, l4, rfl⟩
    walk_at "wpz"
    rw [q_nx]
    have := last (l1 ++ l2 ++ l3 ++ l4)
    simpa [List.append_assoc] using this
end

/-! ### the second fraction, the law -/
def OtherQ (st : Nat) (h : Store) (d : D) (h' : Store) : Prop := ∃ a b, d = .tup [.int a, .int b] ∧ Rat40 a b ∧ StA h' st ∧ Ch st h h'
theorem rat_low {a b p q : Int} (l : Low a b p q) (hp : p.natAbs < 10 ^ 40) (hq : q.natAbs < 10 ^ 40) : Rat40 a b := ⟨l.pos, Nat.lt_of_le_of_lt l.le hp, Nat.lt_of_le_of_lt l.le' hq⟩
theorem other_spec {h : Store} {st : Nat} {a b : Int} (hs : StA h st) (hx : Rat40 a b) : Wp (m_law_other [.ref st, .tup [.int a, .int b]] h) (OtherQ st h) := by
  have ha := hx.la
  have hb := hx.lb
  have hp := hx.pos
  unfold m_law_other m_law_other_b
  walk_at "wpz"
  refine (next_sp hs).imp ?_
  rintro _ h1 ⟨kind, rfl, v0, v1, s1, c1⟩
  have fin : ∀ d3, Wp (mSeq (mSet 4 (mCall 1 m_law_fraction (mCons (mVar 0) mNil)))
    (mRet (mCall 2 m_law_lowest (mCons (mOp fIx (mVar 4) (mC (.int 0))) (mCons (mOp fIx (mVar 4) (mC (.int 1))) mNil)))) [some (.ref st), some (.tup [.int a, .int b]), some (.int kind), d3, none] h1) (endQ (OtherQ st h)) := fun d3 => by
    walk_at "wpz"
    refine (fraction_spec s1).imp ?_
    rintro _ h2 ⟨n, p, q, rfl, ⟨e, f1, f2, f3, f4⟩, s2, c2⟩
    rw [q_nx]
    walk_at "wpx"
    refine (lowest_spec f3 (by omega) (by omega)).imp ?_
    rintro _ _ ⟨x, y, rfl, lw, rfl⟩
    exact ⟨_, _, rfl, rat_low lw f1 f2, s2, c1.trans c2⟩
  rw [q_nx, w_seq]
  walk_at "wpz"
  split
  · exact ⟨_, _, rfl, hx, s1, c1⟩
  rw [q_nx, w_seq]
  walk_at "wpz"
  split
  · refine ⟨line_small (by decide), _, _, rfl, ⟨hp, by rw [Int.zero_sub, Int.natAbs_neg]; exact ha, hb⟩, s1, c1⟩
  rw [q_nx, w_seq]
  walk_at "wpz"
  have after3 : Wp (mSeq (mIfS (mAnd (mTest (mOp (fEq false) (mVar 2) (mC (.int 4)))) (mTest (mOp (fEq true) (mOp fIx (mVar 1) (mC (.int 0))) (mC (.int 0))))) (mRet (mCall 2 m_law_lowest (mCons (mOp fIx (mVar 1) (mC (.int 1))) (mCons (mOp fIx (mVar 1) (mC (.int 0))) mNil)))) mNext)
    (mSeq (mIfS (mTest (mOp (fEq false) (mVar 2) (mC (.int 5)))) (mRet (mTup (mCons (mCall 2 m_law_signed (mCons (mVar 0) (mCons (mCall 2 m_law_big (mCons (mVar 0) (mCons (mC (.int 40)) mNil))) mNil))) (mCons (mC (.int 1)) mNil)))) mNext)
    (mSeq (mSet 4 (mCall 1 m_law_fraction (mCons (mVar 0) mNil)))
    (mRet (mCall 2 m_law_lowest (mCons (mOp fIx (mVar 4) (mC (.int 0))) (mCons (mOp fIx (mVar 4) (mC (.int 1))) mNil)))))) [some (.ref st), some (.tup [.int a, .int b]), some (.int kind), none, none] h1) (endQ (OtherQ st h)) := by
    have after4 : Wp (mSeq (mIfS (mTest (mOp (fEq false) (mVar 2) (mC (.int 5)))) (mRet (mTup (mCons (mCall 2 m_law_signed (mCons (mVar 0) (mCons (mCall 2 m_law_big (mCons (mVar 0) (mCons (mC (.int 40)) mNil))) mNil))) (mCons (mC (.int 1)) mNil)))) mNext)
      (mSeq (mSet 4 (mCall 1 m_law_fraction (mCons (mVar 0) mNil)))
      (mRet (mCall 2 m_law_lowest (mCons (mOp fIx (mVar 4) (mC (.int 0))) (mCons (mOp fIx (mVar 4) (mC (.int 1))) mNil))))) [some (.ref st), some (.tup [.int a, .int b]), some (.int kind), none, none] h1) (endQ (OtherQ st h)) := by
      rw [w_seq]
      walk_at "wpz"
      split
      · refine (big_spec (most := 40) s1 (by decide)).imp ?_
        rintro _ h2 ⟨x, rfl, ⟨x1⟩, s2, c2⟩
        walk_at "wps"
        refine (signed_spec s2).imp ?_
        rintro _ h3 ⟨y, rfl, y1, s3, c3⟩
        walk_at "wps"
        exact ⟨line_small (by decide), _, _, rfl, ⟨by decide, by omega, by decide⟩, s3, (c1.trans c2).trans c3⟩
      · rw [q_nx]
        exact fin none
    rw [w_seq]
    walk_at "wpz"
    split
    · split
      · next h0 =>
        refine (lowest_spec h0 (by omega) (by omega)).imp ?_
        rintro _ _ ⟨x, y, rfl, lw, rfl⟩
        exact ⟨_, _, rfl, rat_low lw hb ha, s1, c1⟩
      · rw [q_nx]
        exact after4
    · rw [q_nx]
      exact after4
  have d10 : ∀ P : Prop, ((0 : Int) ≤ 20 ∧ (20 : Int) ≤ 1000000 ∧ Int.natAbs 10 < 2 ^ 64) ∧ P ↔ P := fun P => ⟨fun z => z.2, fun z => ⟨by decide, z⟩⟩
  obtain ⟨T, hT⟩ : ∃ T : Int, (10 : Int) ^ (20 : Int).toNat = T := ⟨_, rfl⟩
  have hT2 : T = 100000000000000000000 := by rw [← hT]; decide
  simp only [d10, abs_int, hT]
  by_cases k3 : kind = 3
  · rw [if_pos k3]
    refine L2.ite2 (fun i1 => ?_) (fun i1 => ?_)
    · refine L2.ite2 (fun i2 => ?_) (fun i2 => ?_)
      · refine (big_spec (most := 19) s1 (by decide)).imp ?_
        rintro _ h2 ⟨m, rfl, ⟨m1⟩, s2, c2⟩
        walk_at "wps"
        have o1 : mulOk a (1 + (m : Int)) = true := mul_ok (by omega) (by omega)
        have o2 : mulOk b (1 + (m : Int)) = true := mul_ok (by omega) (by omega)
        simp only [o1, o2, true_and]
        refine (signed_spec s2).imp ?_
        rintro _ h3 ⟨y, rfl, y1, s3, c3⟩
        walk_at "wps"
        have b1 : (a * (1 + (m : Int))).natAbs < 10 ^ 39 := by
          rw [Int.natAbs_mul]
          have x1 : a.natAbs < 10 ^ 20 := by omega
          have x2 : (1 + (m : Int)).natAbs ≤ 10 ^ 19 := by omega
          calc a.natAbs * (1 + (m : Int)).natAbs ≤ a.natAbs * 10 ^ 19 := Nat.mul_le_mul_left _ x2
            _ < 10 ^ 20 * 10 ^ 19 := Nat.mul_lt_mul_of_pos_right x1 (by decide)
            _ = 10 ^ 39 := by decide
        have b2 : (b * (1 + (m : Int))).natAbs < 10 ^ 39 := by
          rw [Int.natAbs_mul]
          have x1 : b.natAbs < 10 ^ 20 := by omega
          have x2 : (1 + (m : Int)).natAbs ≤ 10 ^ 19 := by omega
          calc b.natAbs * (1 + (m : Int)).natAbs ≤ b.natAbs * 10 ^ 19 := Nat.mul_le_mul_left _ x2
            _ < 10 ^ 20 * 10 ^ 19 := Nat.mul_lt_mul_of_pos_right x1 (by decide)
            _ = 10 ^ 39 := by decide
        have b3 : b * (1 + (m : Int)) ≠ 0 := Int.ne_of_gt (Int.mul_pos hp (by omega))
        refine (lowest_spec b3 (by omega) (by omega)).imp ?_
        rintro _ _ ⟨x, z, rfl, lw, rfl⟩
        exact ⟨_, _, rfl, rat_low lw (by omega) (by omega), s3, (c1.trans c2).trans c3⟩
      · rw [q_nx]
        exact after3
    · rw [q_nx]
      exact after3
  · rw [if_neg k3, q_nx]
    exact after3
theorem state_sp {ns : List Int} {k : Nat} {h : Store} : Wp (m_law_state [.fzl (ns.map D.int), .int (k : Int)] h) (NewSt h) := G.state_spec
theorem main (ns : List Int) (hl : ns.length ≤ 63) (hb : ∀ z ∈ ns, PySem.Builtin.Int.intBits z ≤ 1048576) : ∃ h', m_law [.fzl (ns.map D.int)] [] = .ok (.bl true) h' := by
  have key : Wp (m_law [.fzl (ns.map D.int)] []) fun d _ => d = .bl true := by
    unfold m_law m_law_b
    walk_at "wpz"
    refine (state_sp (k := 0)).imp ?_
    rintro _ h1 ⟨st, l, rfl, s1, _, _⟩
    walk_at "wpz"
    refine (fraction_spec s1).imp ?_
    rintro _ h2 ⟨n, p, q, rfl, ⟨e, f1, f2, f3, f4⟩, s2, c2⟩
    rw [q_nx, w_seq]
    walk_at "wpx"
    refine (ratio_spec f3 (by omega)).imp ?_
    rintro _ _ ⟨rfl, rfl⟩
    walk_at "wpx"
    refine (stands_spec (low_rat f3) (by omega) (by omega)).imp ?_
    rintro _ _ ⟨rfl, l1, rfl⟩
    have e1 : getL (h2 ++ l1) n = some [.int p, .int q] := by rw [getL_old (getL_lt e)]; exact e
    walk_at "wpx"
    refine (lowest_spec f3 (by omega) (by omega)).imp ?_
    rintro _ _ ⟨a, b, rfl, lw, rfl⟩
    have hx := rat_low lw f1 f2
    refine (state_sp (k := 1)).imp ?_
    rintro _ h3 ⟨st', l2, rfl, s3, rfl, g3⟩
    refine (other_spec s3 hx).imp ?_
    rintro _ h4 ⟨c, d, rfl, hy, s4, c4⟩
    have e2 : getL (h2 ++ l1 ++ l2) n = some [.int p, .int q] := by rw [getL_old (getL_lt e1)]; exact e1
    have ne : n ≠ st' := by
      have := getL_lt e1
      omega
    have e3 := c4.getL e2 ne
    refine (deeds_spec hx hy).imp ?_
    rintro _ _ ⟨rfl, l3, rfl⟩
    walk_at "wps"
    refine (deeds_spec hy hx).imp ?_
    rintro _ _ ⟨rfl, l4, rfl⟩
    walk_at "wps"
    refine (less_spec hx hx).imp ?_
    rintro _ _ ⟨rfl, rfl⟩
    walk_at "wps"
    refine (deeds_spec hx hx).imp ?_
    rintro _ _ ⟨rfl, l5, rfl⟩
    have e6 : getL (h4 ++ l3 ++ l4 ++ l5) n = some [.int p, .int q] := by
      rw [getL_old (by have := getL_lt e3; simp only [List.length_append]; omega), getL_old (by have := getL_lt e3; simp only [List.length_append]; omega), getL_old (getL_lt e3)]
      exact e3
    walk_at "wpx"
    refine (ratio_spec f3 (by omega)).imp ?_
    rintro _ _ ⟨rfl, rfl⟩
    walk_at "wpx"
    refine (stands_spec (low_rat f3) (by omega) (by omega)).imp ?_
    rintro _ _ ⟨rfl, l6, rfl⟩
    walk_at "wps"
    refine (feq_tints (xs := [num p q, den p q]) (ys := [num p q, den p q]) (by simp) (by simp)).mpr ?_
    simp
  obtain ⟨d, h', e, rfl⟩ := key.ex
  exact ⟨h', e⟩
end K27

open PySem PySem.W PyProof.Rows
set_option maxHeartbeats 0 in
theorem PySem.Challenge.cw_roomsfit_k27_ratios_holds : PySem.Challenge.rw_roomsfit_k27_ratios.Holds := by
  w_on; o_law; k_head; (case hw => w_witness2)
  k_fill
  refine L2.walk_ofB (l := PySem.Challenge.rw_roomsfit_k27_ratios) (n := 63) (k := 5) (x := "script") (CX := fun _ => L2.CX0) (sp := fun w => G.spM _ (fun _ => 0) K27.m_law 1) rfl (by decide) rfl ⟨rfl, by decide, by decide⟩ (fun w h Y => PySem.W.kIn_of Y) ?F (fun _ _ a ns hl hb hO hS => by
    obtain ⟨h', e⟩ := K27.main ns hl hb
    exact G.law_sp hO hS e) (fun _ _ _ _ _ h => h)
  case F =>
    intro w mg fa h KX G hmg
    refine' K27.all_mk KX G hmg ?a_ratio ?l_ratio ?c_ratio ?k_ratio ?a_below ?l_below ?c_below ?k_below ?a_law_int ?l_law_int ?c_law_int ?k_law_int ?a_law_state ?l_law_state ?c_law_state ?k_law_state ?a_law_next ?l_law_next ?c_law_next ?k_law_next ?a_law_common ?l_law_common ?c_law_common ?k_law_common ?a_plus ?l_plus ?c_plus ?k_plus ?a_minus ?l_minus ?c_minus ?k_minus ?a_times ?l_times ?c_times ?k_times ?a_over ?l_over ?c_over ?k_over ?a_law_ints ?l_law_ints ?c_law_ints ?k_law_ints ?a_law_big ?l_law_big ?c_law_big ?k_law_big ?a_law_signed ?l_law_signed ?c_law_signed ?k_law_signed ?a_law_lowest ?l_law_lowest ?c_law_lowest ?k_law_lowest ?a_law_less ?l_law_less ?c_law_less ?k_law_less ?a_law_fraction ?l_law_fraction ?c_law_fraction ?k_law_fraction ?a_law_stands ?l_law_stands ?c_law_stands ?k_law_stands ?a_law_other ?l_law_other ?c_law_other ?k_law_other ?a_law_deeds ?l_law_deeds ?c_law_deeds ?k_law_deeds ?a_law ?l_law ?c_law ?k_law ?z_isinstance ?z_int ?z_bool ?z_len ?z_abs ?z_range ?z_list ?z_max ?z_tuple ?y_gcd
    (case a_ratio => k_is); (case l_ratio => k_is); (case c_ratio => k_is); (case k_ratio => k_is); (case a_below => k_is); (case l_below => k_is); (case c_below => k_is); (case k_below => k_is); (case a_law_int => k_is); (case l_law_int => k_is); (case c_law_int => k_is); (case k_law_int => k_is); (case a_law_state => k_is); (case l_law_state => k_is); (case c_law_state => k_is); (case k_law_state => k_is); (case a_law_next => k_is); (case l_law_next => k_is); (case c_law_next => k_is); (case k_law_next => k_is); (case a_law_common => k_is); (case l_law_common => k_is); (case c_law_common => k_is); (case k_law_common => k_is); (case a_plus => k_is); (case l_plus => k_is); (case c_plus => k_is); (case k_plus => k_is); (case a_minus => k_is); (case l_minus => k_is); (case c_minus => k_is); (case k_minus => k_is); (case a_times => k_is); (case l_times => k_is); (case c_times => k_is); (case k_times => k_is); (case a_over => k_is); (case l_over => k_is); (case c_over => k_is); (case k_over => k_is); (case a_law_ints => k_is); (case l_law_ints => k_is); (case c_law_ints => k_is); (case k_law_ints => k_is); (case a_law_big => k_is); (case l_law_big => k_is); (case c_law_big => k_is); (case k_law_big => k_is); (case a_law_signed => k_is); (case l_law_signed => k_is); (case c_law_signed => k_is); (case k_law_signed => k_is); (case a_law_lowest => k_is); (case l_law_lowest => k_is); (case c_law_lowest => k_is); (case k_law_lowest => k_is); (case a_law_less => k_is); (case l_law_less => k_is); (case c_law_less => k_is); (case k_law_less => k_is); (case a_law_fraction => k_is); (case l_law_fraction => k_is); (case c_law_fraction => k_is); (case k_law_fraction => k_is); (case a_law_stands => k_is); (case l_law_stands => k_is); (case c_law_stands => k_is); (case k_law_stands => k_is); (case a_law_other => k_is); (case l_law_other => k_is); (case c_law_other => k_is); (case k_law_other => k_is); (case a_law_deeds => k_is); (case l_law_deeds => k_is); (case c_law_deeds => k_is); (case k_law_deeds => k_is); (case a_law => k_is); (case l_law => k_is); (case c_law => k_is); (case k_law => k_is); (case z_isinstance => k_is); (case z_int => k_is); (case z_bool => k_is); (case z_len => k_is); (case z_abs => k_is); (case z_range => k_is); (case z_list => k_is); (case z_max => k_is); (case z_tuple => k_is); (case y_gcd => k_is)

