import PyProof.Rows.All
import Wide.All
import OpenK.AllK
import Wide.FinOn
import HandS.ForMost
import HandS.ForExc
import HandS.CallSlots
import HandS.Wide
import HandS.TupAny
import HandS.TupMul
import HandS.TupLe
import PyProof.NeKinds
import HandS.IsInst
import HandS.Strs
import HandS.SortInts
import HandS.SortRule
import HandS.Rev
import HandS.RevRange
import HandS.ExcOwn
import HandS.Head0
import HandS.Head1
import HandS.Head2
import HandS.HeadEnd
import HandS.HeadHook1
import HandS.HeadHook2
import PySem.Challenge.RW_crossbends_k68_orders_with_one_fall
set_option Elab.async false
set_option linter.all false
set_option maxRecDepth 100000
set_option maxHeartbeats 4000000
/-! A small machine over the layer: data, cells, codes; each code's meaning is a reading. -/
namespace CB
open PySem PySem.Spec PyProof.Rows L2

/-! ### data, cells, memory, ends -/
inductive D where
  | non | bl (b : Bool) | int (i : Int) | str (s : List Nat) | tup (ds : List D) | ref (i : Nat)
inductive Cell where
  | lst (ds : List D) | frz (ds : List D) | dK (kvs : List (D × D)) | dT (kvs : List (D × D)) | ins (c : Nat) (fs : List (Str × D)) | exc (c : Nat) (f : Option (Str × D))
abbrev Mem := List Cell
abbrev Ctx := List Nat
structure Exn where
  cls : Nat
  fld : Option (Str × D)
inductive R (α : Type) where
  | ok (a : α) (m : Mem) | exc (x : Exn) (m : Mem) | bad
abbrev Env := List (Option D)
def R.bind {α β : Type} (r : R α) (f : α → Mem → R β) : R β := match r with
  | .ok a m => f a m
  | .exc x m => .exc x m
  | .bad => .bad
abbrev O (α : Type) := Option (α × Mem)
def O.r {α : Type} : O α → R α
  | some (a, m) => .ok a m
  | none => .bad
abbrev EC := Ctx → Env → Mem → R D
abbrev TC := Ctx → Env → Mem → R Bool
abbrev AC := Ctx → Env → Mem → R (List D)

mutual
def D.lo (n : Nat) : D → Bool
  | .ref i => Nat.blt i n
  | .tup ds => D.loL n ds
  | .non => true
  | .bl _ => true
  | .int _ => true
  | .str _ => true
def D.loL (n : Nat) : List D → Bool
  | [] => true
  | d :: ds => D.lo n d && D.loL n ds
end
def Cell.lo (n : Nat) : Cell → Bool
  | .lst ds => D.loL n ds
  | .frz ds => D.loL n ds
  | .dK kvs => kvs.all fun p => p.1.lo n && p.2.lo n
  | .dT kvs => kvs.all fun p => p.1.lo n && p.2.lo n
  | .ins _ fs => fs.all fun p => p.2.lo n
  | .exc _ f => match f with | some d => d.2.lo n | none => true

/-! ### how they are borne -/
mutual
inductive RepV (K : PySem.W.Frag) (μ : List Addr) (H : Hp) : D → V → Prop where
  | non : RepV K μ H .non .non
  | bl {b} : RepV K μ H (.bl b) (.bl b)
  | int {i} : RepV K μ H (.int i) (.int i)
  | str {cs : List Nat} : RepV K μ H (.str cs) (.str ⟨cs.toArray⟩)
  | tup {ds : List D} {a : Addr} {vs : List V} : SqT K H a vs → RepVs K μ H ds vs → RepV K μ H (.tup ds) (.ref a)
  | ref {i : Nat} {a : Addr} : μ[i]? = some a → RepV K μ H (.ref i) (.ref a)
inductive RepVs (K : PySem.W.Frag) (μ : List Addr) (H : Hp) : List D → List V → Prop where
  | nil : RepVs K μ H [] []
  | cons {d ds v vs} : RepV K μ H d v → RepVs K μ H ds vs → RepVs K μ H (d :: ds) (v :: vs)
end

structure Ext (K : PySem.W.Frag) (μ : List Addr) (H : Hp) (μ' : List Addr) (H' : Hp) : Prop where
  pre : ∀ (i : Nat) (a : Addr), μ[i]? = some a → μ'[i]? = some a
  tup : ∀ (a : Addr) (xs : List V), SqT K H a xs → SqT K H' a xs
section
variable {K : PySem.W.Frag} {μ μ' μ2 : List Addr} {H H' H2 : Hp}
theorem Ext.refl : Ext K μ H μ H := ⟨fun _ _ h => h, fun _ _ h => h⟩
theorem Ext.trans (a : Ext K μ H μ' H') (b : Ext K μ' H' μ2 H2) : Ext K μ H μ2 H2 := ⟨fun i x h => b.pre i x (a.pre i x h), fun i x h => b.tup i x (a.tup i x h)⟩
end
mutual
theorem RepV.mono {K : PySem.W.Frag} {μ μ' : List Addr} {H H' : Hp} (e : Ext K μ H μ' H') : ∀ {d : D} {v : V}, RepV K μ H d v → RepV K μ' H' d v
  | _, _, .non => .non
  | _, _, .bl => .bl
  | _, _, .int => .int
  | _, _, .str => .str
  | _, _, .tup h hs => .tup (e.tup _ _ h) (RepVs.mono e hs)
  | _, _, .ref h => .ref (e.pre _ _ h)
theorem RepVs.mono {K : PySem.W.Frag} {μ μ' : List Addr} {H H' : Hp} (e : Ext K μ H μ' H') : ∀ {d : List D} {v : List V}, RepVs K μ H d v → RepVs K μ' H' d v
  | _, _, .nil => .nil
  | _, _, .cons h hs => .cons (RepV.mono e h) (RepVs.mono e hs)
end
section
variable {K : PySem.W.Frag} {μ μ' μ2 : List Addr} {H H' H2 : Hp}
theorem RepVs.len : ∀ {ds : List D} {vs : List V}, RepVs K μ H ds vs → ds.length = vs.length
  | _, _, .nil => rfl
  | _, _, .cons _ t => congrArg (· + 1) t.len
theorem RepVs.append : ∀ {ds es : List D} {vs us : List V}, RepVs K μ H ds vs → RepVs K μ H es us → RepVs K μ H (ds ++ es) (vs ++ us)
  | _, _, _, _, .nil, h => h
  | _, _, _, _, .cons r t, h => .cons r (t.append h)
theorem RepVs.one {d : D} {v : V} (h : RepV K μ H d v) : RepVs K μ H [d] [v] := .cons h .nil
theorem RepVs.get : ∀ {ds : List D} {vs : List V} {i : Nat} {d : D}, RepVs K μ H ds vs → ds[i]? = some d → ∃ v, vs[i]? = some v ∧ RepV K μ H d v
  | _, _, _, _, .nil, e => by simp at e
  | _, _, 0, _, .cons r _, e => by simp at e; subst e; exact ⟨_, rfl, r⟩
  | _, _, i + 1, d, .cons _ t, e => by
    obtain ⟨v, h1, h2⟩ := RepVs.get (i := i) (d := d) t (by simpa using e)
    exact ⟨v, by simpa using h1, h2⟩
theorem RepVs.getV : ∀ {ds : List D} {vs : List V} {i : Nat} {v : V}, RepVs K μ H ds vs → vs[i]? = some v → ∃ d, ds[i]? = some d ∧ RepV K μ H d v
  | _, _, _, _, .nil, e => by simp at e
  | _, _, 0, _, .cons r _, e => by simp at e; subst e; exact ⟨_, rfl, r⟩
  | _, _, i + 1, d, .cons _ t, e => by
    obtain ⟨v, h1, h2⟩ := RepVs.getV (i := i) (v := d) t (by simpa using e)
    exact ⟨v, by simpa using h1, h2⟩
theorem RepVs.set {d : D} {v : V} (r : RepV K μ H d v) : ∀ {ds : List D} {vs : List V} (i : Nat), RepVs K μ H ds vs → RepVs K μ H (ds.set i d) (vs.set i v)
  | _, _, _, .nil => .nil
  | _, _, 0, .cons _ t => .cons r t
  | _, _, i + 1, .cons q t => .cons q (RepVs.set r i t)
theorem RepVs.take : ∀ {ds : List D} {vs : List V} (n : Nat), RepVs K μ H ds vs → RepVs K μ H (ds.take n) (vs.take n)
  | _, _, 0, _ => .nil
  | _, _, _ + 1, .nil => .nil
  | _, _, n + 1, .cons r t => .cons r (RepVs.take n t)
theorem RepVs.drop : ∀ {ds : List D} {vs : List V} (n : Nat), RepVs K μ H ds vs → RepVs K μ H (ds.drop n) (vs.drop n)
  | _, _, 0, r => r
  | _, _, _ + 1, .nil => .nil
  | _, _, n + 1, .cons _ t => RepVs.drop n t
theorem RepVs.eraseIdx : ∀ {ds : List D} {vs : List V} (n : Nat), RepVs K μ H ds vs → RepVs K μ H (ds.eraseIdx n) (vs.eraseIdx n)
  | _, _, _, .nil => .nil
  | _, _, 0, .cons _ t => t
  | _, _, n + 1, .cons r t => .cons r (RepVs.eraseIdx n t)
theorem RepVs.reverse {ds : List D} {vs : List V} (h : RepVs K μ H ds vs) : RepVs K μ H ds.reverse vs.reverse := by
  induction ds generalizing vs with
  | nil => cases h; exact .nil
  | cons d ds ih =>
    cases h with
    | cons r t =>
      rw [List.reverse_cons, List.reverse_cons]
      exact (ih t).append (.one r)
end

/-! a key's data -/
def dKey : Key → D
  | .inl i => .int i
  | .inr x => .str x.cps.toList
inductive RepKV (K : PySem.W.Frag) (μ : List Addr) (H : Hp) {κ : Type} (f : κ → D) : List (D × D) → List (κ × V) → Prop where
  | nil : RepKV K μ H f [] []
  | cons {k d v ds vs} : RepV K μ H d v → RepKV K μ H f ds vs → RepKV K μ H f ((f k, d) :: ds) ((k, v) :: vs)
theorem RepKV.mono {K : PySem.W.Frag} {μ μ' : List Addr} {H H' : Hp} {κ : Type} {f : κ → D} (e : Ext K μ H μ' H') {ds : List (D × D)} {vs : List (κ × V)} (h : RepKV K μ H f ds vs) : RepKV K μ' H' f ds vs := by
  induction h with
  | nil => exact .nil
  | cons r _ ih => exact .cons (r.mono e) ih
inductive RepFs (K : PySem.W.Frag) (μ : List Addr) (H : Hp) : List (Str × D) → List (Str × V) → Prop where
  | nil : RepFs K μ H [] []
  | cons {k d v ds vs} : RepV K μ H d v → RepFs K μ H ds vs → RepFs K μ H ((k, d) :: ds) ((k, v) :: vs)
theorem RepFs.mono {K : PySem.W.Frag} {μ μ' : List Addr} {H H' : Hp} (e : Ext K μ H μ' H') {ds : List (Str × D)} {vs : List (Str × V)} (h : RepFs K μ H ds vs) : RepFs K μ' H' ds vs := by
  induction h with
  | nil => exact .nil
  | cons r _ ih => exact .cons (r.mono e) ih

section
variable (K : PySem.W.Frag) (ca : Nat → Addr)
def RepC (μ : List Addr) (H : Hp) (a : Addr) : Cell → Prop
  | .lst ds => ∃ vs, H a = some (.lst vs) ∧ RepVs K μ H ds vs
  | .frz ds => ∃ vs o, H a = some (.frz o (.lst vs)) ∧ RepVs K μ H ds vs
  | .dK kvs => ∃ vs, H a = some (.dK vs) ∧ RepKV K μ H dKey kvs vs
  | .dT kvs => ∃ vs, H a = some (.dT vs) ∧ RepKV K μ H (fun ks => D.tup (ks.map dKey)) kvs vs
  | .ins c fs => ∃ dx vs, H a = some (.ins (ca c) dx vs) ∧ RepFs K μ H fs vs
  | .exc _ _ => False
end
structure Par where
  K : PySem.W.Frag
  ca : Nat → Addr
  k : Ctx
structure RepM (G : Par) (μ : List Addr) (H : Hp) (m : Mem) : Prop where
  len : μ.length = m.length
  nd : μ.Nodup
  cell : ∀ (i : Nat) (a : Addr) (c : Cell), μ[i]? = some a → m[i]? = some c → RepC G.K G.ca μ H a c
  base : ∀ b ∈ G.k, b ≤ m.length
  old : ∀ b ∈ G.k, ∀ (i : Nat) (c : Cell), i < b → m[i]? = some c → c.lo b = true
section
variable {K : PySem.W.Frag} {ca : Nat → Addr} {G : Par} {μ μ' μ2 : List Addr} {H H' H2 : Hp} {a p : Addr} {c : Cell} {o : HO} {m : Mem}
theorem RepC.some (h : RepC K ca μ H a c) : ∃ o, H a = some o := by
  cases c with
  | lst ds => obtain ⟨_, e, _⟩ := h; exact ⟨_, e⟩
  | frz ds => obtain ⟨_, _, e, _⟩ := h; exact ⟨_, e⟩
  | dK ds => obtain ⟨_, e, _⟩ := h; exact ⟨_, e⟩
  | dT ds => obtain ⟨_, e, _⟩ := h; exact ⟨_, e⟩
  | ins _ ds => obtain ⟨_, _, e, _⟩ := h; exact ⟨_, e⟩
  | exc _ _ => exact h.elim
theorem RepC.stay (h : RepC K ca μ H a c) (e : Ext K μ H μ' H') (q : H' a = H a) : RepC K ca μ' H' a c := by
  cases c with
  | lst ds => obtain ⟨vs, e1, r⟩ := h; exact ⟨vs, q.trans e1, r.mono e⟩
  | frz ds => obtain ⟨vs, o, e1, r⟩ := h; exact ⟨vs, o, q.trans e1, r.mono e⟩
  | dK ds => obtain ⟨vs, e1, r⟩ := h; exact ⟨vs, q.trans e1, r.mono e⟩
  | dT ds => obtain ⟨vs, e1, r⟩ := h; exact ⟨vs, q.trans e1, r.mono e⟩
  | ins _ ds => obtain ⟨dx, vs, e1, r⟩ := h; exact ⟨dx, vs, q.trans e1, r.mono e⟩
  | exc _ _ => exact h.elim
theorem SqT.upd_none {xs : List V} (hp : H p = none) (h : SqT K H a xs) : SqT K (upd H p o) a xs := by
  rcases h with (h | ⟨u, h⟩) | h
  · exact .inl (.inl (by rw [upd_ne (ne_of_none h hp)]; exact h))
  · exact .inl (.inr ⟨u, by rw [upd_ne (ne_of_none h hp)]; exact h⟩)
  · exact .inr h
theorem SqT.upd_mut {xs : List V} {u : HO} (hp : H p = some u) (h1 : ∀ ys, u ≠ .tup ys) (h2 : ∀ q y, u ≠ .frz q y) (h : SqT K H a xs) : SqT K (upd H p o) a xs := by
  rcases h with (h | ⟨w, h⟩) | h
  · exact .inl (.inl (by rw [upd_ne (ne_of h hp (fun z => h1 _ z.symm))]; exact h))
  · exact .inl (.inr ⟨w, by rw [upd_ne (ne_of h hp (fun z => h2 _ _ z.symm))]; exact h⟩)
  · exact .inr h
theorem Ext.new (hp : H p = none) : Ext K μ H μ (upd H p o) := ⟨fun _ _ h => h, fun _ _ h => SqT.upd_none hp h⟩
theorem Ext.snoc {H' : Hp} (e : Ext K μ H μ H') : Ext K μ H (μ ++ [p]) H' := ⟨fun i x h => by
  rw [List.getElem?_append_left (by
    rcases Nat.lt_or_ge i μ.length with q | q
    · exact q
    · rw [List.getElem?_eq_none q] at h; cases h)]
  exact h, e.tup⟩
theorem RepM.notin (h : RepM G μ H m) (hp : H p = none) : p ∉ μ := fun hm => by
  obtain ⟨i, hi⟩ := List.getElem?_of_mem hm
  have hl : i < μ.length := by
    rcases Nat.lt_or_ge i μ.length with q | q
    · exact q
    · rw [List.getElem?_eq_none q] at hi; cases hi
  have hc : m[i]? = some (m[i]'(h.len ▸ hl)) := List.getElem?_eq_getElem _
  obtain ⟨o, e⟩ := (h.cell i p _ hi hc).some
  rw [hp] at e; cases e
/-- a tuple (or another untracked thing) is laid -/
theorem RepM.laid (h : RepM G μ H m) (hp : H p = none) : RepM G μ (upd H p o) m :=
  ⟨h.len, h.nd, fun i a c h1 h2 => (h.cell i a c h1 h2).stay (Ext.new hp) (upd_ne (by
    obtain ⟨o, e⟩ := (h.cell i a c h1 h2).some
    exact ne_of_none e hp)), h.base, h.old⟩
def Mem.push (m : Mem) (c : Cell) : Mem := m ++ [c]
/-- a cell is made -/
theorem RepM.push (h : RepM G μ H m) (hp : H p = none) (hc : RepC G.K G.ca (μ ++ [p]) (upd H p o) p c) : RepM G (μ ++ [p]) (upd H p o) (Mem.push m c) := by
  have e : Ext G.K μ H (μ ++ [p]) (upd H p o) := (Ext.new hp).snoc
  refine ⟨by simp [Mem.push, h.len], ?_, fun i a c' h1 h2 => ?_, fun b hb => ?_, fun b hb i c' h1 h2 => ?_⟩
  · rw [List.nodup_append]
    refine ⟨h.nd, by simp, fun a ha b hb => ?_⟩
    rw [List.mem_singleton] at hb
    subst hb
    exact fun z => h.notin hp (z ▸ ha)
  · rcases Nat.lt_or_ge i μ.length with q | q
    · rw [List.getElem?_append_left q] at h1
      have h2' : m[i]? = some c' := by
        have : (m ++ [c])[i]? = some c' := h2
        rwa [List.getElem?_append_left (h.len ▸ q)] at this
      have r := h.cell i a c' h1 h2'
      obtain ⟨u, hu⟩ := r.some
      exact r.stay e (upd_ne (ne_of_none hu hp))
    · rw [List.getElem?_append_right q] at h1
      have h2' : (m ++ [c])[i]? = some c' := h2
      rw [List.getElem?_append_right (h.len ▸ q)] at h2'
      have i0 : i - μ.length = 0 := by
        rcases Nat.eq_zero_or_pos (i - μ.length) with z | z
        · exact z
        · rw [List.getElem?_eq_none (by simp; omega)] at h1; cases h1
      rw [i0] at h1
      rw [← h.len, i0] at h2'
      simp at h1 h2'
      subst h1 h2'
      exact hc
  · show b ≤ (m ++ [c]).length
    rw [List.length_append]
    exact Nat.le_trans (h.base b hb) (Nat.le_add_right _ _)
  · have h2' : (m ++ [c])[i]? = some c' := h2
    rw [List.getElem?_append_left (Nat.lt_of_lt_of_le h1 (h.base b hb))] at h2'
    exact h.old b hb i c' h1 h2'
def Mem.put (m : Mem) (i : Nat) (c : Cell) : Mem := m.set i c
/-- a cell is changed -/
theorem RepM.put {i : Nat} {u : HO} (h : RepM G μ H m) (hi : μ[i]? = some a) (hu : H a = some u) (h1 : ∀ ys, u ≠ .tup ys) (h2 : ∀ q y, u ≠ .frz q y) (hl : ∀ b ∈ G.k, b ≤ i ∨ c.lo b = true)
    (hc : RepC G.K G.ca μ (upd H a o) a c) : RepM G μ (upd H a o) (Mem.put m i c) ∧ Ext G.K μ H μ (upd H a o) := by
  have e : Ext G.K μ H μ (upd H a o) := ⟨fun _ _ h => h, fun _ _ h => SqT.upd_mut hu h1 h2 h⟩
  refine ⟨⟨by simp [Mem.put, h.len], h.nd, fun j b c' g1 g2 => ?_, fun b hb => by simpa [Mem.put] using h.base b hb, fun b hb j c' g1 g2 => ?_⟩, e⟩
  · have g2' : (m.set i c)[j]? = some c' := g2
    by_cases hj : i = j
    · subst hj
      rw [hi] at g1; cases g1
      rw [List.getElem?_set_self' ] at g2'
      cases q : m[i]? with
      | none => rw [q] at g2'; cases g2'
      | some _ => rw [q] at g2'; simp at g2'; subst g2'; exact hc
    · rw [List.getElem?_set_ne hj] at g2'
      have r := h.cell j b c' g1 g2'
      have hne : b ≠ a := fun z => by
        subst z
        have hi' : i < μ.length := by
          rcases Nat.lt_or_ge i μ.length with q | q
          · exact q
          · rw [List.getElem?_eq_none q] at hi; cases hi
        exact hj ((List.getElem?_inj hi' h.nd).mp (hi.trans g1.symm))
      exact r.stay e (upd_ne hne)
  · have g2' : (m.set i c)[j]? = some c' := g2
    by_cases hj : i = j
    · subst hj
      rw [List.getElem?_set_self'] at g2'
      cases q : m[i]? with
      | none => rw [q] at g2'; cases g2'
      | some _ =>
        rw [q] at g2'; simp at g2'; subst g2'
        rcases hl b hb with z | z
        · exact absurd z (Nat.not_le_of_lt g1)
        · exact z
    · rw [List.getElem?_set_ne hj] at g2'
      exact h.old b hb j c' g1 g2'
end

/-! ### readings -/
/-- what a caught or flying error is -/
def RepX (K : PySem.W.Frag) (ca : Nat → Addr) (μ : List Addr) (H : Hp) (x : Exn) (cls : Value) (d : Option Addr) : Prop :=
  cls = .ref (ca x.cls) ∧ match x.fld with
    | none => d = none
    | some (f, e) => ∃ da v, d = some da ∧ H da = some (.xd [(f, v)]) ∧ RepV K μ H e v
def Post (G : Par) (W : WX) (σ : L2.St) (μ : List Addr) (H : Hp) {α β : Type} (rep : List Addr → Hp → α → β → Prop) (Q : β → Hp → Prop) : R α → Prop
  | .ok a m => ∀ (x : β) (H' : Hp) (μ' : List Addr), Ext G.K μ H μ' H' → RepM G μ' H' m → rep μ' H' a x → Q x H'
  | .exc e m => ∀ (cls : Value) (d : Option Addr) (H' : Hp) (μ' : List Addr), Ext G.K μ H μ' H' → RepM G μ' H' m → RepX G.K G.ca μ' H' e cls d → W cls d σ H'
  | .bad => False
def PO (G : Par) (μ : List Addr) (H : Hp) {α β : Type} (rep : List Addr → Hp → α → β → Prop) (Q : β → Hp → Prop) : O α → Prop
  | some (a, m) => ∀ (x : β) (H' : Hp) (μ' : List Addr), Ext G.K μ H μ' H' → RepM G μ' H' m → rep μ' H' a x → Q x H'
  | none => False
abbrev rD (G : Par) : List Addr → Hp → D → V → Prop := fun μ H d v => RepV G.K μ H d v
abbrev rDs (G : Par) : List Addr → Hp → List D → List V → Prop := fun μ H d v => RepVs G.K μ H d v
abbrev rB : List Addr → Hp → Bool → Bool → Prop := fun _ _ a b => a = b
structure RepE (K : PySem.W.Frag) (μ : List Addr) (H : Hp) (ρ : Env) (σ : L2.St) : Prop where
  len : ρ.length = σ.length
  get : ∀ (i : Nat) (d : D), ρ[i]? = some (some d) → ∃ v, σ[i]? = some (some v) ∧ RepV K μ H d v
theorem RepE.mono {K : PySem.W.Frag} {μ μ' : List Addr} {H H' : Hp} {ρ : Env} {σ : L2.St} (e : Ext K μ H μ' H') (h : RepE K μ H ρ σ) : RepE K μ' H' ρ σ :=
  ⟨h.len, fun i d q => let ⟨v, a, b⟩ := h.get i d q; ⟨v, a, b.mono e⟩⟩
theorem RepE.set {K : PySem.W.Frag} {μ : List Addr} {H : Hp} {ρ : Env} {σ : L2.St} {i : Nat} {d : D} {v : V} (h : RepE K μ H ρ σ) (r : RepV K μ H d v) : RepE K μ H (ρ.set i (some d)) (σ.set i (some v)) := by
  refine ⟨by simp [h.len], fun j e q => ?_⟩
  by_cases hj : i = j
  · subst hj
    have hl : i < ρ.length := by
      rcases Nat.lt_or_ge i ρ.length with z | z
      · exact z
      · rw [List.getElem?_eq_none (by simpa using z)] at q; cases q
    rw [List.getElem?_set_self hl] at q
    cases q
    exact ⟨v, List.getElem?_set_self (h.len ▸ hl), r⟩
  · rw [List.getElem?_set_ne hj] at q
    obtain ⟨w, a, b⟩ := h.get j e q
    exact ⟨w, by rw [List.getElem?_set_ne hj]; exact a, b⟩

section
variable {G : Par} {W : WX} {σ : L2.St} {μ μ1 : List Addr} {H H1 : Hp} {α β α' β' : Type} {rep : List Addr → Hp → α → β → Prop} {rep' : List Addr → Hp → α' → β' → Prop} {Q Q' : β → Hp → Prop} {Q2 : β' → Hp → Prop}
theorem Post.ext {r : R α} (e : Ext G.K μ H μ1 H1) (h : Post G W σ μ H rep Q r) : Post G W σ μ1 H1 rep Q r := by
  cases r with
  | ok a m => exact fun x H' μ' e' => h x H' μ' (e.trans e')
  | exc x m => exact fun c d H' μ' e' => h c d H' μ' (e.trans e')
  | bad => exact h
theorem Post.imp {r : R α} (h : Post G W σ μ H rep Q r) (hq : ∀ x H', Q x H' → Q' x H') : Post G W σ μ H rep Q' r := by
  cases r with
  | ok a m => exact fun x H' μ' e' hm hr => hq _ _ (h x H' μ' e' hm hr)
  | exc x m => exact h
  | bad => exact h
/-- one thing, then another -/
theorem Post.bind {r : R α} {f : α → Mem → R α'} (h : Post G W σ μ H rep' Q2 (r.bind f)) :
    Post G W σ μ H rep (fun x H' => ∃ a m μ', Ext G.K μ H μ' H' ∧ RepM G μ' H' m ∧ rep μ' H' a x ∧ Post G W σ μ' H' rep' Q2 (f a m)) r := by
  cases r with
  | ok a m => exact fun x H' μ' e hm hr => ⟨a, m, μ', e, hm, hr, Post.ext e h⟩
  | exc x m => exact h
  | bad => exact h
theorem PO.of {o : O α} (h : Post G W σ μ H rep Q o.r) : PO G μ H rep Q o := by
  cases o with
  | none => exact h
  | some p => exact h
/-- a plain answer -/
theorem PO.pure {a : α} {m : Mem} {x : β} (h : PO G μ H rep Q (some (a, m))) (hm : RepM G μ H m) (r : rep μ H a x) : Q x H := h x H μ .refl hm r
theorem Post.okk {a : α} {m : Mem} {x : β} (h : Post G W σ μ H rep Q (.ok a m)) (hm : RepM G μ H m) (r : rep μ H a x) : Q x H := h x H μ .refl hm r
end
/-- a code's reading: at a state that bears some data -/
def tE (G : Par) (W : WX) (c : EC) : TE := fun σ H Q => ∃ ρ μ m, RepE G.K μ H ρ σ ∧ RepM G μ H m ∧ Post G W σ μ H (rD G) Q (c G.k ρ m)
def tT (G : Par) (W : WX) (c : TC) : TT := fun σ H Q => ∃ ρ μ m, RepE G.K μ H ρ σ ∧ RepM G μ H m ∧ Post G W σ μ H rB Q (c G.k ρ m)
def tA (G : Par) (W : WX) (c : AC) : TA := fun σ H Q => ∃ ρ μ m, RepE G.K μ H ρ σ ∧ RepM G μ H m ∧ Post G W σ μ H (rDs G) Q (c G.k ρ m)
structure SE (G : Par) (X : Cx) (W : WX) (e : Expr) (c : EC) : Prop where
  pe : PE X e (tE G W c)
structure ST (G : Par) (X : Cx) (W : WX) (e : Expr) (c : TC) : Prop where
  pt : PT X e (tT G W c)
structure SA (G : Par) (X : Cx) (W : WX) (es : List Expr) (c : AC) : Prop where
  pa : PA X es (tA G W c)
theorem PE.weak {X : Cx} {e : Expr} {t t' : TE} (h : PE X e t) (w : ∀ σ H Q, t' σ H Q → t σ H Q) : PE X e t' := ⟨fun pins s σ H Q I q => h.run pins s σ H Q I (w _ _ _ q)⟩
theorem PT.weak {X : Cx} {e : Expr} {t t' : TT} (h : PT X e t) (w : ∀ σ H Q, t' σ H Q → t σ H Q) : PT X e t' := ⟨fun pins s σ H Q I q => h.run pins s σ H Q I (w _ _ _ q)⟩
theorem PA.weak {X : Cx} {e : List Expr} {t t' : TA} (h : PA X e t) (w : ∀ σ H Q, t' σ H Q → t σ H Q) : PA X e t' := ⟨fun pos pins s σ H Q I q => h.run pos pins s σ H Q I (w _ _ _ q)⟩
theorem PS.weak {X : Cx} {e : Stmt} {t t' : TS} (h : PS X e t) (w : ∀ D σ H, t' D σ H → t D σ H) : PS X e t' := ⟨fun pins s σ H D I q => h.run pins s σ H D I (w _ _ _ q)⟩
theorem PSs.weak {X : Cx} {e : List Stmt} {t t' : TS} (h : PSs X e t) (w : ∀ D σ H, t' D σ H → t D σ H) : PSs X e t' := ⟨fun pins s σ H D I q => h.run pins s σ H D I (w _ _ _ q)⟩
end CB

set_option Elab.async false
set_option linter.all false
set_option maxRecDepth 100000
set_option maxHeartbeats 4000000
namespace CB
open PySem PySem.Spec PyProof.Rows L2

def nth {α : Type} : List α → Nat → Option α
  | [], _ => none
  | a :: _, 0 => some a
  | _ :: l, n + 1 => nth l n
theorem nth_eq {α : Type} : ∀ (l : List α) (n : Nat), nth l n = l[n]?
  | [], _ => by simp [nth]
  | _ :: _, 0 => by simp [nth]
  | _ :: l, n + 1 => by simp [nth, nth_eq l n]
/-- lists and texts stay below this -/
def lim : Nat := 1000000
theorem lim_line {n : Nat} (h : Nat.ble n lim = true) : n ≤ sizeLine := Nat.le_trans (Nat.le_of_ble_eq_true h) (by decide)
theorem lim_line' {n : Nat} (h : Nat.ble n lim = true) : n < sizeLine := Nat.lt_of_le_of_lt (Nat.le_of_ble_eq_true h) (by decide)

/-! ### codes of expressions -/
def eK (d : D) : EC := fun _ _ m => .ok d m
def eVar (i : Nat) : EC := fun k ρ m => match nth ρ i with
  | some (some d) => .ok d m
  | _ => .bad
def eOp (f : D → D → Mem → O D) (a b : EC) : EC := fun k ρ m => (a k ρ m).bind fun x m => (b k ρ m).bind fun y m => (f x y m).r
def eUn (f : D → Mem → O D) (a : EC) : EC := fun k ρ m => (a k ρ m).bind fun x m => (f x m).r
def eIf (t : TC) (a b : EC) : EC := fun k ρ m => (t k ρ m).bind fun c m => if c then a k ρ m else b k ρ m
def aNil : AC := fun _ _ m => .ok [] m
def aCons (a : EC) (as : AC) : AC := fun k ρ m => (a k ρ m).bind fun x m => (as k ρ m).bind fun xs m => .ok (x :: xs) m
def eTup (as : AC) : EC := fun k ρ m => (as k ρ m).bind fun xs m => if Nat.ble xs.length lim then .ok (.tup xs) m else .bad
def newL (xs : List D) (m : Mem) : O D := if Nat.ble xs.length lim then some (.ref m.length, Mem.push m (.lst xs)) else none
def eLst (as : AC) : EC := fun k ρ m => (as k ρ m).bind fun xs m => (newL xs m).r
def eBI (f : List D → Mem → O D) (as : AC) : EC := fun k ρ m => (as k ρ m).bind fun xs m => (f xs m).r
def eMt (ty : D → Mem → Bool) (f : Ctx → D → List D → Mem → O D) (o : EC) (as : AC) : EC := fun k ρ m => (o k ρ m).bind fun x m => if ty x m then (as k ρ m).bind fun xs m => (f k x xs m).r else .bad
/-- truth -/
def truD (m : Mem) : D → Option Bool
  | .non => some false
  | .bl b => some b
  | .int i => some (i != 0)
  | _ => none
def tcV (a : EC) : TC := fun k ρ m => (a k ρ m).bind fun x m => match x with | .bl b => .ok b m | _ => .bad
def tcAnd (a b : TC) : TC := fun k ρ m => (a k ρ m).bind fun c m => if c then b k ρ m else .ok false m
def tcOr (a b : TC) : TC := fun k ρ m => (a k ρ m).bind fun c m => if c then .ok true m else b k ρ m
def tcNot (a : TC) : TC := fun k ρ m => (a k ρ m).bind fun c m => .ok (!c) m
def eAnd (a b : EC) : EC := fun k ρ m => (a k ρ m).bind fun x m => match x with | .bl c => (if c then b k ρ m else .ok (.bl false) m) | _ => .bad
def eOr (a b : EC) : EC := fun k ρ m => (a k ρ m).bind fun x m => match x with | .bl c => (if c then .ok (.bl true) m else b k ρ m) | _ => .bad
def eNot (a : EC) : EC := fun k ρ m => (a k ρ m).bind fun x m => match x with | .bl c => .ok (.bl (!c)) m | _ => .bad

section
variable {ca : Nat → Addr} {k : Ctx} {X : Cx} {W : WX} {a b o : Expr} {c ca' cb co : EC} {es : List Expr} {as : AC} {pos apos cpos p p2 : Pos}
variable (ca k)
abbrev E? (X : Cx) (W : WX) (e : Expr) (c : EC) : Prop := SE ⟨X.K, ca, k⟩ X W e c
abbrev T? (X : Cx) (W : WX) (e : Expr) (c : TC) : Prop := ST ⟨X.K, ca, k⟩ X W e c
abbrev A? (X : Cx) (W : WX) (e : List Expr) (c : AC) : Prop := SA ⟨X.K, ca, k⟩ X W e c
variable {ca k}
theorem so_k {e : Expr} {v : V} {d : D} (h : PE X e (tC v)) (r : ∀ K μ H, RepV K μ H d v) : E? ca k X W e (eK d) :=
  ⟨PE.weak h fun σ H Q ⟨ρ, μ, m, he, hm, h⟩ => Post.okk h hm (r _ _ _)⟩
theorem so_int {i : Int} {j : Nat} : E? ca k X W (.Constant (.int i) j pos) (eK (.int i)) := so_k pe_int fun _ _ _ => .int
theorem so_bl {i : Bool} {j : Nat} : E? ca k X W (.Constant (.bool i) j pos) (eK (.bl i)) := so_k pe_bl fun _ _ _ => .bl
theorem so_non {j : Nat} : E? ca k X W (.Constant .none j pos) (eK .non) := so_k pe_non fun _ _ _ => .non
theorem so_str {x : Str} {j : Nat} {cs : List Nat} (h : x = ⟨cs.toArray⟩ := by rfl) : E? ca k X W (.Constant (.str x) j pos) (eK (.str cs)) := by
  subst h
  exact so_k pe_str fun _ _ _ => .str
/-- a module's whole number -/
theorem so_glob {x : Str} {u : Value} {i : Int} (hg : Gl X x) (hm : X.mg x = some u) (r : RelV (.int i) u) (hd : (x == ("__debug__" : Str)) = false := by decide) : E? ca k X W (.Name x pos) (eK (.int i)) := so_k (pe_glob hg hm r hd) fun _ _ _ => .int
theorem so_globS {x : Str} {u : Value} {cs : List Nat} (hg : Gl X x) (hm : X.mg x = some u) (r : RelV (.str ⟨cs.toArray⟩) u) (hd : (x == ("__debug__" : Str)) = false := by decide) : E? ca k X W (.Name x pos) (eK (.str cs)) := so_k (pe_glob hg hm r hd) fun _ _ _ => .str
theorem so_gI {x : Str} {i : Int} (h : ∃ t, X.mg x = some (.int i t)) (hg : Gl X x := by rfl) (hd : (x == ("__debug__" : Str)) = false := by decide) : E? ca k X W (.Name x pos) (eK (.int i)) := let ⟨t, e⟩ := h; so_glob hg e ⟨t, rfl⟩ hd
theorem so_gS {x z : Str} {cs : List Nat} (h : ∃ t, X.mg x = some (.str z t)) (hz : z = ⟨cs.toArray⟩ := by rfl) (hg : Gl X x := by rfl) (hd : (x == ("__debug__" : Str)) = false := by decide) : E? ca k X W (.Name x pos) (eK (.str cs)) := by
  obtain ⟨t, e⟩ := h
  subst hz
  exact so_globS hg e ⟨t, rfl⟩ hd
theorem so_var (i : Nat) {x : Str} (hN : X.N[i]? = some x := by rfl) (hv : Vis X.env.scope x := by first | exact Or.inl rfl | exact Or.inr (Or.inl rfl) | exact Or.inr (Or.inr rfl)) (hd : (x == ("__debug__" : Str)) = false := by decide)
    (hcd : (x == ("__classdict__" : Str)) = false := by decide) : E? ca k X W (.Name x pos) (eVar i) :=
  ⟨PE.weak (pe_var hN hv hd hcd) fun σ H Q ⟨ρ, μ, m, he, hm, h⟩ => by
    unfold eVar at h
    rw [nth_eq] at h
    cases q : ρ[i]? with
    | none => rw [q] at h; exact h.elim
    | some o =>
      cases o with
      | none => rw [q] at h; exact h.elim
      | some d =>
        rw [q] at h
        obtain ⟨v, e1, r⟩ := he.get i d q
        exact ⟨v, e1, Post.okk h hm r⟩⟩

def rOpD (G : Par) (f : D → D → Mem → O D) : R2 := fun x y H Q => ∃ μ m a b, RepM G μ H m ∧ RepV G.K μ H a x ∧ RepV G.K μ H b y ∧ PO G μ H (rD G) Q (f a b m)
def rUnD (G : Par) (f : D → Mem → O D) : V → Hp → VK → Prop := fun x H Q => ∃ μ m a, RepM G μ H m ∧ RepV G.K μ H a x ∧ PO G μ H (rD G) Q (f a m)
def rBID (G : Par) (f : List D → Mem → O D) : List V → Hp → VK → Prop := fun xs H Q => ∃ μ m as, RepM G μ H m ∧ RepVs G.K μ H as xs ∧ PO G μ H (rD G) Q (f as m)
def rMtD (G : Par) (f : D → List D → Mem → O D) : V → List V → Hp → VK → Prop := fun x xs H Q => ∃ μ m a as, RepM G μ H m ∧ RepV G.K μ H a x ∧ RepVs G.K μ H as xs ∧ PO G μ H (rD G) Q (f a as m)
theorem opD_tOp {f : D → D → Mem → O D} {σ : L2.St} {H : Hp} {Q : VK} (h : tE ⟨X.K, ca, k⟩ W (eOp f ca' cb) σ H Q) : tOp (rOpD ⟨X.K, ca, k⟩ f) (tE ⟨X.K, ca, k⟩ W ca') (tE ⟨X.K, ca, k⟩ W cb) σ H Q := by
  obtain ⟨ρ, μ, m, he, hm, h⟩ := h
  refine ⟨ρ, μ, m, he, hm, Post.imp (Post.bind h) fun x H1 ⟨a, m1, μ1, e1, hm1, r1, h1⟩ => ⟨ρ, μ1, m1, he.mono e1, hm1, Post.imp (Post.bind h1) fun y H2 ⟨b, m2, μ2, e2, hm2, r2, h2⟩ => ⟨μ2, m2, a, b, hm2, r1.mono e2, r2, PO.of h2⟩⟩⟩
theorem so_op {op : Operator} {f : D → D → Mem → O D} (ho : OpR X (binaryOp op) (rOpD ⟨X.K, ca, k⟩ f)) (ha : E? ca k X W a ca') (hb : E? ca k X W b cb) : E? ca k X W (.BinOp a op b pos) (eOp f ca' cb) :=
  ⟨PE.weak (pe_op ho ha.pe hb.pe) fun _ _ _ h => opD_tOp h⟩
theorem so_cmp {op : CmpOp} {f : D → D → Mem → O D} (ho : OpR X (compareOp op) (rOpD ⟨X.K, ca, k⟩ f)) (ha : E? ca k X W a ca') (hb : E? ca k X W b cb) (hm : behindInMarks op b = false := by first | exact nobehind _ (by decide) (by decide) | rfl) : E? ca k X W (.Compare a [op] [b] pos) (eOp f ca' cb) :=
  ⟨PE.weak (pe_cmpR ho ha.pe hb.pe hm) fun _ _ _ h => opD_tOp h⟩
theorem so_ix {f : D → D → Mem → O D} (ho : IxR X (rOpD ⟨X.K, ca, k⟩ f)) (ha : E? ca k X W a ca') (hb : E? ca k X W b cb) (hs : PlainIx b := by exact fun _ _ => rfl) : E? ca k X W (.Subscript a b pos) (eOp f ca' cb) :=
  ⟨PE.weak (pe_ix ho ha.pe hb.pe hs) fun _ _ _ h => opD_tOp h⟩
theorem so_un {op : UnaryOp} {f : D → Mem → O D} (ho : UnR X (unaryOp op) (rUnD ⟨X.K, ca, k⟩ f)) (ha : E? ca k X W a ca') : E? ca k X W (.UnaryOp op a pos) (eUn f ca') :=
  ⟨PE.weak (pe_un ho ha.pe) fun σ H Q ⟨ρ, μ, m, he, hm, h⟩ => ⟨ρ, μ, m, he, hm, Post.imp (Post.bind h) fun x H1 ⟨a, m1, μ1, e1, hm1, r1, h1⟩ => ⟨μ1, m1, a, hm1, r1, PO.of h1⟩⟩⟩
theorem so_anil : A? ca k X W [] aNil := ⟨PA.weak pa_nil fun σ H Q ⟨ρ, μ, m, he, hm, h⟩ => Post.okk h hm .nil⟩
theorem so_acons {e : Expr} (ha : E? ca k X W e ca') (hr : A? ca k X W es as) (hs : starEach (e :: es) X.env = (false, eval e X.env) :: starEach es X.env := by rfl) : A? ca k X W (e :: es) (aCons ca' as) :=
  ⟨PA.weak (pa_cons ha.pe hr.pa hs) fun σ H Q ⟨ρ, μ, m, he, hm, h⟩ => ⟨ρ, μ, m, he, hm, Post.imp (Post.bind h) fun x H1 ⟨a, m1, μ1, e1, hm1, r1, h1⟩ => ⟨ρ, μ1, m1, he.mono e1, hm1, Post.imp (Post.bind h1) fun xs H2 ⟨as, m2, μ2, e2, hm2, r2, h2⟩ => Post.okk h2 hm2 (.cons (r1.mono e2) r2)⟩⟩⟩
theorem so_tup {x1} (h : A? ca k X W es as) : E? ca k X W (.Tuple es x1 pos) (eTup as) :=
  ⟨PE.weak (pe_tup h.pa) fun σ H Q ⟨ρ, μ, m, he, hm, h⟩ => ⟨ρ, μ, m, he, hm, Post.imp (Post.bind h) fun xs H1 ⟨as, m1, μ1, e1, hm1, r1, h1⟩ => by
    split at h1
    · rename_i hl
      refine ⟨by rw [← r1.len]; exact lim_line hl, fun p hp => ?_⟩
      have ex := Ext.new (K := X.K) (μ := μ1) (o := .tup xs) hp
      exact h1 _ _ _ ex (hm1.laid hp) (.tup (.of upd_same) (r1.mono ex))
    · exact h1.elim⟩⟩
/-- a new list -/
theorem newL_ok {G : Par} {μ : List Addr} {H : Hp} {m : Mem} {ds : List D} {vs : List V} {Q : VK} (h : PO G μ H (rD G) Q (newL ds m)) (hm : RepM G μ H m) (r : RepVs G.K μ H ds vs) : vs.length ≤ sizeLine ∧ ∀ p, H p = none → Q (.ref p) (upd H p (.lst vs)) := by
  unfold newL at h
  split at h
  · rename_i hl
    refine ⟨by rw [← r.len]; exact lim_line hl, fun p hp => ?_⟩
    have ex : Ext G.K μ H (μ ++ [p]) (upd H p (.lst vs)) := (Ext.new hp).snoc
    refine h _ _ _ ex (hm.push hp ⟨vs, upd_same, r.mono ex⟩) (.ref ?_)
    rw [← hm.len]
    simp
  · exact h.elim
theorem so_lst (h : A? ca k X W es as) : E? ca k X W (.List es pos) (eLst as) :=
  ⟨PE.weak (pe_lst h.pa) fun σ H Q ⟨ρ, μ, m, he, hm, h⟩ => ⟨ρ, μ, m, he, hm, Post.imp (Post.bind h) fun xs H1 ⟨as, m1, μ1, e1, hm1, r1, h1⟩ => newL_ok (PO.of h1) hm1 r1⟩⟩
theorem so_bi_w {f : List D → Mem → O D} {σ : L2.St} {H : Hp} {Q : VK} (h : tE ⟨X.K, ca, k⟩ W (eBI f as) σ H Q) : tCB (rBID ⟨X.K, ca, k⟩ f) (tA ⟨X.K, ca, k⟩ W as) σ H Q := by
  obtain ⟨ρ, μ, m, he, hm, h⟩ := h
  exact ⟨ρ, μ, m, he, hm, Post.imp (Post.bind h) fun xs H1 ⟨as, m1, μ1, e1, hm1, r1, h1⟩ => ⟨μ1, m1, as, hm1, r1, PO.of h1⟩⟩
theorem so_callB {id : String} {x : Str} {e : Expr} {f : List D → Mem → O D} (hc : CallR X (.builtin id) (rBID ⟨X.K, ca, k⟩ f)) (hg : Gl X x) (hm : X.mg x = none) (hv : bootBuiltins x = some (.builtin id)) (ha : A? ca k X W (e :: es) as) (hn : x ≠ "__name__" := by decide) (hdb : (x == ("__debug__" : Str)) = false := by decide)
    (he : starEach (e :: es) X.env = (false, eval e X.env) :: starEach es X.env := by rfl) (hpl : (backTo pos (starEach es X.env)).any (·.1) = false := by rfl) : E? ca k X W (.Call (.Name x p) (e :: es) [] pos) (eBI f as) :=
  ⟨PE.weak (pe_callB hc hg hm hv ha.pa hn hdb he hpl) fun _ _ _ h => so_bi_w h⟩
theorem so_callTy {T : String} {x : Str} {e : Expr} {f : List D → Mem → O D} (hc : CallR X (.type T) (rBID ⟨X.K, ca, k⟩ f)) (hg : Gl X x) (hm : X.mg x = none) (hv : bootBuiltins x = some (.type T)) (ha : A? ca k X W (e :: es) as) (hn : x ≠ "__name__" := by decide) (hdb : (x == ("__debug__" : Str)) = false := by decide)
    (he : starEach (e :: es) X.env = (false, eval e X.env) :: starEach es X.env := by rfl) (hpl : (backTo pos (starEach es X.env)).any (·.1) = false := by rfl) : E? ca k X W (.Call (.Name x p) (e :: es) [] pos) (eBI f as) :=
  ⟨PE.weak (pe_callTy hc hg hm hv ha.pa hn hdb he hpl) fun _ _ _ h => so_bi_w h⟩
/-- tests -/
theorem st_val {e : Expr} (h : E? ca k X W e c) (he : ∀ whole, isTrue e X.env whole = (do let v ← whole; standAt e.pos; holding [v] (truthy v)) := by intro _; rfl) : T? ca k X W e (tcV c) :=
  ⟨PT.weak (pt_val h.pe he) fun σ H Q ⟨ρ, μ, m, he, hm, h⟩ => ⟨ρ, μ, m, he, hm, Post.imp (Post.bind h) fun x H1 ⟨a, m1, μ1, e1, hm1, r1, h1⟩ => by
    cases r1 <;> first | exact h1.elim | exact ⟨_, rfl, Post.okk h1 hm1 rfl⟩⟩⟩
theorem st_cmp {op : CmpOp} {f : D → D → Mem → O D} (ho : OpR X (compareOp op) (rOpD ⟨X.K, ca, k⟩ f)) (ha : E? ca k X W a ca') (hb : E? ca k X W b cb) (hm : behindInMarks op b = false := by first | exact nobehind _ (by decide) (by decide) | rfl) : T? ca k X W (.Compare a [op] [b] pos) (tcV (eOp f ca' cb)) :=
  ⟨PT.weak (pt_cmpR ho ha.pe hb.pe hm) fun σ H Q ⟨ρ, μ, m, he, hm, h⟩ => by
    have h2 : tE ⟨X.K, ca, k⟩ W (eOp f ca' cb) σ H (fun x H' => ∃ k, x = .bl k ∧ Q k H') := ⟨ρ, μ, m, he, hm, Post.imp (Post.bind h) fun x H1 ⟨a, m1, μ1, e1, hm1, r1, h1⟩ => by
      cases r1 <;> first | exact h1.elim | exact ⟨_, rfl, Post.okk h1 hm1 rfl⟩⟩
    exact opD_tOp h2⟩
theorem st_not {e : Expr} {t : TC} (h : T? ca k X W e t) : T? ca k X W (.UnaryOp .Not e pos) (tcNot t) :=
  ⟨PT.weak (pt_not h.pt) fun σ H Q ⟨ρ, μ, m, he, hm, h⟩ => ⟨ρ, μ, m, he, hm, Post.imp (Post.bind h) fun x H1 ⟨a, m1, μ1, e1, hm1, r1, h1⟩ => Post.okk h1 hm1 (by cases r1; rfl)⟩⟩
structure SW (ca : Nat → Addr) (k : Ctx) (X : Cx) (W : WX) (e : Expr) (c : TC) : Prop where
  pw : PW X e (tT ⟨X.K, ca, k⟩ W c)
theorem PW.weak {X : Cx} {e : Expr} {t t' : TT} (h : PW X e t) (w : ∀ σ H Q, t' σ H Q → t σ H Q) : PW X e t' := ⟨fun wh pins s σ H Q I q => h.run wh pins s σ H Q I (w _ _ _ q)⟩
theorem SW.st {e : Expr} {t : TC} (h : SW ca k X W e t) : T? ca k X W e t := ⟨h.pw.pt⟩
variable {ta tb : TC} {rest : List Expr}
theorem sw_and1 (ha : T? ca k X W a ta) : SW ca k X W (.BoolOp .And [a] pos) ta := ⟨pw_and1 ha.pt⟩
theorem sw_or1 (ha : T? ca k X W a ta) : SW ca k X W (.BoolOp .Or [a] pos) ta := ⟨pw_or1 ha.pt⟩
theorem sw_and (ha : T? ca k X W a ta) (hb : SW ca k X W (.BoolOp .And (b :: rest) pos) tb) : SW ca k X W (.BoolOp .And (a :: b :: rest) pos) (tcAnd ta tb) :=
  ⟨PW.weak (pw_and ha.pt hb.pw) fun σ H Q ⟨ρ, μ, m, he, hm, h⟩ => ⟨ρ, μ, m, he, hm, Post.imp (Post.bind h) fun x H1 ⟨v0, m1, μ1, e1, hm1, r1, h1⟩ => by
    obtain rfl : v0 = x := r1
    cases v0 with
    | true => rw [if_pos rfl]; exact ⟨ρ, μ1, m1, he.mono e1, hm1, h1⟩
    | false => rw [if_neg Bool.false_ne_true]; exact Post.okk h1 hm1 rfl⟩⟩
theorem sw_or (ha : T? ca k X W a ta) (hb : SW ca k X W (.BoolOp .Or (b :: rest) pos) tb) : SW ca k X W (.BoolOp .Or (a :: b :: rest) pos) (tcOr ta tb) :=
  ⟨PW.weak (pw_or ha.pt hb.pw) fun σ H Q ⟨ρ, μ, m, he, hm, h⟩ => ⟨ρ, μ, m, he, hm, Post.imp (Post.bind h) fun x H1 ⟨v0, m1, μ1, e1, hm1, r1, h1⟩ => by
    obtain rfl : v0 = x := r1
    cases v0 with
    | true => rw [if_pos rfl]; exact Post.okk h1 hm1 rfl
    | false => rw [if_neg Bool.false_ne_true]; exact ⟨ρ, μ1, m1, he.mono e1, hm1, h1⟩⟩⟩
/-- as values -/
theorem so_one {op} (h : E? ca k X W a c) : E? ca k X W (.BoolOp op [a] pos) c := ⟨pe_one h.pe⟩
theorem so_and (ha : E? ca k X W a ca') (hb : E? ca k X W (.BoolOp .And (b :: rest) pos) cb) : E? ca k X W (.BoolOp .And (a :: b :: rest) pos) (eAnd ca' cb) :=
  ⟨PE.weak (pe_and ha.pe hb.pe) fun σ H Q ⟨ρ, μ, m, he, hm, h⟩ => ⟨ρ, μ, m, he, hm, Post.imp (Post.bind h) fun x H1 ⟨a, m1, μ1, e1, hm1, r1, h1⟩ => by
    cases r1 with
    | @bl b0 =>
      refine ⟨b0, rfl, ?_⟩
      cases b0 with
      | true => rw [if_pos rfl]; exact ⟨ρ, μ1, m1, he.mono e1, hm1, h1⟩
      | false => rw [if_neg Bool.false_ne_true]; exact Post.okk h1 hm1 .bl
    | _ => exact h1.elim⟩⟩
theorem so_or (ha : E? ca k X W a ca') (hb : E? ca k X W (.BoolOp .Or (b :: rest) pos) cb) : E? ca k X W (.BoolOp .Or (a :: b :: rest) pos) (eOr ca' cb) :=
  ⟨PE.weak (pe_or ha.pe hb.pe) fun σ H Q ⟨ρ, μ, m, he, hm, h⟩ => ⟨ρ, μ, m, he, hm, Post.imp (Post.bind h) fun x H1 ⟨a, m1, μ1, e1, hm1, r1, h1⟩ => by
    cases r1 with
    | @bl b0 =>
      refine ⟨b0, rfl, ?_⟩
      cases b0 with
      | true => rw [if_pos rfl]; exact Post.okk h1 hm1 .bl
      | false => rw [if_neg Bool.false_ne_true]; exact ⟨ρ, μ1, m1, he.mono e1, hm1, h1⟩
    | _ => exact h1.elim⟩⟩
theorem so_not (ha : E? ca k X W a ca') : E? ca k X W (.UnaryOp .Not a pos) (eNot ca') :=
  ⟨PE.weak (pe_not ha.pe) fun σ H Q ⟨ρ, μ, m, he, hm, h⟩ => ⟨ρ, μ, m, he, hm, Post.imp (Post.bind h) fun x H1 ⟨a, m1, μ1, e1, hm1, r1, h1⟩ => by
    cases r1 with
    | bl => exact ⟨_, rfl, Post.okk h1 hm1 .bl⟩
    | _ => exact h1.elim⟩⟩
theorem so_ifx {e : Expr} (ht : T? ca k X W e ta) (ha : E? ca k X W a ca') (hb : E? ca k X W b cb) : E? ca k X W (.IfExp e a b pos) (eIf ta ca' cb) :=
  ⟨PE.weak (pe_ifExp ht.pt ha.pe hb.pe) fun σ H Q ⟨ρ, μ, m, he, hm, h⟩ => ⟨ρ, μ, m, he, hm, Post.imp (Post.bind h) fun x H1 ⟨v0, m1, μ1, e1, hm1, r1, h1⟩ => by
    obtain rfl : v0 = x := r1
    cases v0 with
    | true => rw [if_pos rfl]; exact ⟨ρ, μ1, m1, he.mono e1, hm1, h1⟩
    | false => rw [if_neg Bool.false_ne_true]; exact ⟨ρ, μ1, m1, he.mono e1, hm1, h1⟩⟩⟩
/-- a built-in's method -/
theorem so_bm {T id : String} {name : Str} {e : Expr} {ty : D → Mem → Bool} {f : Ctx → D → List D → Mem → O D} (pa : PlainAttrs T) (slot : Slot T name id) (hty : typeOf (.builtin id) = pure (.type "method_descriptor")) (hm : MtR X id (rMtD ⟨X.K, ca, k⟩ (f k)))
    (htv : ∀ μ H m d v, RepM ⟨X.K, ca, k⟩ μ H m → RepV X.K μ H d v → ty d m = true → tyV X.K T v H) (ho : E? ca k X W o co) (ha : A? ca k X W (e :: es) as)
    (hbase : attributeBase o name X.env (eval o X.env) = eval o X.env := by rfl)
    (hfew : ((backTo cpos (starEach (e :: es) X.env)).all (fun x => !x.1) && (backToKw cpos (keywordEach [] X.env)).all (fun x => x.1.isSome)
      && decide ((e :: es).length + ([] : List Keyword).length + (if ([] : List Keyword).isEmpty then 0 else 1) < 30)) = true := by rfl)
    (hline : (apos.endLine == cpos.line) = true := by rfl) (hs : starEach (e :: es) X.env = (false, eval e X.env) :: starEach es X.env := by rfl) (hplain : (backTo cpos (starEach es X.env)).any (·.1) = false := by rfl) :
    E? ca k X W (.Call (.Attribute o name apos) (e :: es) [] cpos) (eMt ty f co as) :=
  ⟨PE.weak (pe_bm pa slot hty hm ho.pe ha.pa hbase hfew hline hs hplain) fun σ H Q ⟨ρ, μ, m, he, hm, h⟩ => ⟨ρ, μ, m, he, hm, Post.imp (Post.bind h) fun x H1 ⟨a, m1, μ1, e1, hm1, r1, h1⟩ => by
    split at h1
    · rename_i ht
      exact ⟨htv _ _ _ _ _ hm1 r1 ht, ρ, μ1, m1, he.mono e1, hm1, Post.imp (Post.bind h1) fun xs H2 ⟨as, m2, μ2, e2, hm2, r2, h2⟩ => ⟨μ2, m2, a, as, hm2, r1.mono e2, r2, PO.of h2⟩⟩
    · exact h1.elim⟩⟩
theorem so_bm0 {T id : String} {name : Str} {ty : D → Mem → Bool} {f : Ctx → D → List D → Mem → O D} (pa : PlainAttrs T) (slot : Slot T name id) (hty : typeOf (.builtin id) = pure (.type "method_descriptor")) (hm : MtR X id (rMtD ⟨X.K, ca, k⟩ (f k)))
    (htv : ∀ μ H m d v, RepM ⟨X.K, ca, k⟩ μ H m → RepV X.K μ H d v → ty d m = true → tyV X.K T v H) (ho : E? ca k X W o co)
    (hbase : attributeBase o name X.env (eval o X.env) = eval o X.env := by rfl) (hline : (apos.endLine == cpos.line) = true := by rfl) :
    E? ca k X W (.Call (.Attribute o name apos) [] [] cpos) (eMt ty f co aNil) :=
  ⟨PE.weak (pe_bm0 pa slot hty hm ho.pe hbase hline) fun σ H Q ⟨ρ, μ, m, he, hm, h⟩ => ⟨ρ, μ, m, he, hm, Post.imp (Post.bind h) fun x H1 ⟨a, m1, μ1, e1, hm1, r1, h1⟩ => by
    split at h1
    · rename_i ht
      exact ⟨htv _ _ _ _ _ hm1 r1 ht, μ1, m1, a, [], hm1, r1, .nil, PO.of h1⟩
    · exact h1.elim⟩⟩
end
end CB

set_option Elab.async false
set_option linter.all false
set_option maxRecDepth 100000
set_option maxHeartbeats 4000000
namespace CB
open PySem PySem.Spec PyProof.Rows L2

/-! ### statements -/
inductive RS where
  | nx (ρ : Env) (m : Mem) | rt (d : D) (m : Mem) | exc (x : Exn) (ρ : Env) (m : Mem) | bad
abbrev SC := Ctx → Env → Mem → RS
def R.st (r : R D) (ρ : Env) (f : D → Mem → RS) : RS := match r with
  | .ok d m => f d m
  | .exc x m => .exc x ρ m
  | .bad => .bad
def RS.seq (r : RS) (f : Env → Mem → RS) : RS := match r with
  | .nx ρ m => f ρ m
  | .rt d m => .rt d m
  | .exc x ρ m => .exc x ρ m
  | .bad => .bad
inductive Tg where
  | one (i : Nat) | tup (is : List Nat)
def setAll : List Nat → List D → Env → Option Env
  | [], [], ρ => some ρ
  | i :: is, d :: ds, ρ => setAll is ds (ρ.set i (some d))
  | _, _, _ => none
def Tg.put : Tg → D → Env → Option Env
  | .one i, d, ρ => some (ρ.set i (some d))
  | .tup is, .tup ds, ρ => setAll is ds ρ
  | .tup _, _, _ => none
def sPass : SC := fun _ ρ m => .nx ρ m
def sSeq (a b : SC) : SC := fun k ρ m => (a k ρ m).seq (b k)
def sAsg (t : Tg) (c : EC) : SC := fun k ρ m => (c k ρ m).st ρ fun d m => match t.put d ρ with | some ρ' => .nx ρ' m | none => .bad
def sExpr (c : EC) : SC := fun k ρ m => (c k ρ m).st ρ fun _ m => .nx ρ m
def sRet (c : EC) : SC := fun k ρ m => (c k ρ m).st ρ fun d m => .rt d m
def sRetN : SC := fun _ _ m => .rt .non m
def sBad : SC := fun _ _ _ => .bad
def sIf (t : TC) (a b : SC) : SC := fun k ρ m => match t k ρ m with
  | .ok c m => if c then a k ρ m else b k ρ m
  | .exc x m => .exc x ρ m
  | .bad => .bad
def sRaise (c : Nat) : SC := fun _ ρ m => .exc ⟨c, none⟩ ρ m
def whileN (k : Ctx) (t : TC) (b : SC) : Nat → Env → Mem → RS
  | 0, _, _ => .bad
  | n + 1, ρ, m => match t k ρ m with
    | .ok true m => (b k ρ m).seq (whileN k t b n)
    | .ok false m => .nx ρ m
    | .exc x m => .exc x ρ m
    | .bad => .bad
def sWhile (n : Nat) (t : TC) (b : SC) : SC := fun k ρ m => whileN k t b n ρ m
/-- what is walked: its item at a turn, or its end -/
abbrev Src := Nat → Mem → Option (Option D)
abbrev IC := Ctx → Env → Mem → R (Src × Nat)
def forN (k : Ctx) (s : Src) (t : Tg) (b : SC) : Nat → Nat → Env → Mem → RS
  | n, i, ρ, m => match s i m with
    | none => .bad
    | some none => .nx ρ m
    | some (some d) => match n with
      | 0 => .bad
      | n + 1 => match t.put d ρ with
        | some ρ' => (b k ρ' m).seq (forN k s t b n (i + 1))
        | none => .bad
def sFor (t : Tg) (ic : IC) (b : SC) : SC := fun k ρ m => match ic k ρ m with
  | .ok (s, n) m => forN k s t b n 0 ρ m
  | .exc x m => .exc x ρ m
  | .bad => .bad
def wipeE (ρ : Env) : List Nat → Env
  | [] => ρ
  | v :: vs => (wipeE ρ vs).set v none
def lcN (k : Ctx) (s : Src) (t : Tg) (q : TC) (e : EC) (c : Nat) (ρ : Env) : Nat → Nat → Mem → R D
  | n, i, m => match s i m with
    | none => .bad
    | some none => .ok (.ref c) m
    | some (some d) => match n with
      | 0 => .bad
      | n + 1 => match t.put d ρ with
        | none => .bad
        | some ρ' => match q k ρ' m with
          | .ok true m => match e k ρ' m with
            | .ok y m => match nth m c with
              | some (.lst acc) => if Nat.ble acc.length lim then lcN k s t q e c ρ n (i + 1) (Mem.put m c (.lst (acc ++ [y]))) else .bad
              | _ => .bad
            | _ => .bad
          | .ok false m => lcN k s t q e c ρ n (i + 1) m
          | _ => .bad
def eLc (own : List Nat) (t : Tg) (ic : IC) (q : TC) (e : EC) : EC := fun k ρ m => match ic k ρ m with
  | .ok (s, n) m => lcN k s t q e m.length (wipeE ρ own) n 0 (Mem.push m (.lst []))
  | .exc x m => .exc x m
  | .bad => .bad
def tcYes : TC := fun _ _ m => .ok true m
/-- functions -/
abbrev FC := Ctx → List D → Mem → R D
def eCall (f : FC) (as : AC) : EC := fun k ρ m => (as k ρ m).bind fun xs m => f k xs m
def gcR (n0 : Nat) (d : D) (m : Mem) : R D :=
  if d.lo n0 then .ok d (m.take n0) else match d with
    | .ref i => match nth m i with
      | some (.lst ds) => if D.loL n0 ds then .ok (.ref n0) (m.take n0 ++ [.lst ds]) else .ok d m
      | _ => .ok d m
    | _ => .ok d m
def callR (n0 : Nat) : RS → R D
  | .rt d m => gcR n0 d m
  | .nx _ m => gcR n0 .non m
  | .exc x _ m => match x.fld with
    | none => .exc x (m.take n0)
    | some _ => .exc x m
  | .bad => .bad
def startE (n : Nat) (args : List D) : Env := args.map some ++ List.replicate (n - args.length) none
def mkFn (ar n : Nat) (b : SC) : FC := fun k args m => if Nat.beq args.length ar then callR m.length (b (m.length :: k) (startE n args) m) else .bad

/-! ### their meaning -/
def PostS (G : Par) (W : WX) (D : Ends) (μ : List Addr) (H : Hp) : RS → Prop
  | .nx ρ m => ∀ (σ' : L2.St) (H' : Hp) (μ' : List Addr), Ext G.K μ H μ' H' → RepM G μ' H' m → RepE G.K μ' H' ρ σ' → D.nx σ' H'
  | .rt d m => ∀ (v : V) (H' : Hp) (μ' : List Addr), Ext G.K μ H μ' H' → RepM G μ' H' m → RepV G.K μ' H' d v → D.rt v H'
  | .exc x ρ m => ∀ (cls : Value) (d : Option Addr) (σ' : L2.St) (H' : Hp) (μ' : List Addr), Ext G.K μ H μ' H' → RepM G μ' H' m → RepE G.K μ' H' ρ σ' → RepX G.K G.ca μ' H' x cls d → W cls d σ' H'
  | .bad => False
section
variable {G : Par} {W : WX} {D D' : Ends} {μ μ1 : List Addr} {H H1 : Hp} {σ : L2.St} {ρ : Env} {m : Mem}
theorem PostS.ext {r : RS} (e : Ext G.K μ H μ1 H1) (h : PostS G W D μ H r) : PostS G W D μ1 H1 r := by
  cases r with
  | nx ρ m => exact fun σ' H' μ' e' => h σ' H' μ' (e.trans e')
  | rt d m => exact fun v H' μ' e' => h v H' μ' (e.trans e')
  | exc x ρ m => exact fun c d σ' H' μ' e' => h c d σ' H' μ' (e.trans e')
  | bad => exact h
/-- an expression ahead of a statement's end -/
theorem PostS.st {r : R CB.D} {f : CB.D → Mem → RS} (h : PostS G W D μ H (r.st ρ f)) (he : RepE G.K μ H ρ σ) :
    Post G W σ μ H (rD G) (fun x H' => ∃ a m μ', Ext G.K μ H μ' H' ∧ RepM G μ' H' m ∧ RepV G.K μ' H' a x ∧ PostS G W D μ' H' (f a m)) r := by
  cases r with
  | ok a m => exact fun x H' μ' e hm hr => ⟨a, m, μ', e, hm, hr, PostS.ext e h⟩
  | exc x m => exact fun cls d H' μ' e hm hx => h cls d σ H' μ' e hm (he.mono e) hx
  | bad => exact h
end
def tS (G : Par) (W : WX) (c : SC) : TS := fun D σ H => ∃ ρ μ m, RepE G.K μ H ρ σ ∧ RepM G μ H m ∧ PostS G W D μ H (c G.k ρ m)
structure SS (G : Par) (X : Cx) (W : WX) (e : Stmt) (c : SC) : Prop where
  ps : PS X e (tS G W c)
structure SSs (G : Par) (X : Cx) (W : WX) (e : List Stmt) (c : SC) : Prop where
  pss : PSs X e (tS G W c)
/-- the target's reading -/
def gsOf : List Nat → TGs
  | [] => gNil
  | i :: is => gCons (gName i) (gsOf is)
def gOf (K : PySem.W.Frag) : Tg → TG
  | .one i => gName i
  | .tup is => gTup K is.length (gsOf is)
theorem gs_ok {K : PySem.W.Frag} {μ : List Addr} {H : Hp} : ∀ {is : List Nat} {ds : List D} {vs : List V} {ρ ρ' : Env} {σ : L2.St} {Q : L2.St → Hp → Prop}, setAll is ds ρ = some ρ' → RepVs K μ H ds vs → RepE K μ H ρ σ → (∀ σ', RepE K μ H ρ' σ' → Q σ' H) → gsOf is vs σ H Q
  | [], [], _, _, _, _, _, h, .nil, he, q => by cases h; exact ⟨rfl, q _ he⟩
  | i :: is, d :: ds, _, _, _, _, _, h, .cons r t, he, q => ⟨_, _, rfl, gs_ok (is := is) h t (he.set r) q⟩
  | [], _ :: _, _, _, _, _, _, h, _, _, _ => nomatch h
  | _ :: _, [], _, _, _, _, _, h, _, _, _ => nomatch h
theorem setAll_len : ∀ {is : List Nat} {ds : List D} {ρ ρ' : Env}, setAll is ds ρ = some ρ' → ds.length = is.length
  | [], [], _, _, _ => rfl
  | _ :: is, _ :: ds, _, _, h => congrArg (· + 1) (setAll_len (is := is) h)
  | [], _ :: _, _, _, h => nomatch h
  | _ :: _, [], _, _, h => nomatch h
theorem g_ok {K : PySem.W.Frag} {μ : List Addr} {H : Hp} {t : Tg} {d : D} {v : V} {ρ ρ' : Env} {σ : L2.St} {Q : L2.St → Hp → Prop} (h : t.put d ρ = some ρ') (r : RepV K μ H d v) (he : RepE K μ H ρ σ) (q : ∀ σ', RepE K μ H ρ' σ' → Q σ' H) : gOf K t v σ H Q := by
  cases t with
  | one i => cases h; exact q _ (he.set r)
  | tup is =>
    cases r with
    | tup hs hr => exact ⟨_, _, rfl, hs, by rw [← hr.len]; exact setAll_len h, gs_ok h hr he q⟩
    | _ => exact nomatch h
section
variable {ca : Nat → Addr} {k : Ctx} {X : Cx} {W : WX} {e : Expr} {c : EC} {st : Stmt} {rest body orelse : List Stmt} {s1 s2 : SC} {pos : Pos} {tc : TC} {tg : Expr} {t : Tg} {iter : Expr} {ic : IC}
abbrev S? (ca : Nat → Addr) (k : Ctx) (X : Cx) (W : WX) (e : Stmt) (c : SC) : Prop := SS ⟨X.K, ca, k⟩ X W e c
abbrev Ss? (ca : Nat → Addr) (k : Ctx) (X : Cx) (W : WX) (e : List Stmt) (c : SC) : Prop := SSs ⟨X.K, ca, k⟩ X W e c
theorem ss_nil : Ss? ca k X W [] sPass := ⟨PSs.weak pss_nil fun D σ H ⟨ρ, μ, m, he, hm, h⟩ => h σ H μ .refl hm he⟩
theorem ss_cons (h1 : S? ca k X W st s1) (h2 : Ss? ca k X W rest s2) : Ss? ca k X W (st :: rest) (sSeq s1 s2) :=
  ⟨PSs.weak (pss_cons h1.ps h2.pss) fun D σ H ⟨ρ, μ, m, he, hm, h⟩ => ⟨ρ, μ, m, he, hm, by
    replace h : PostS ⟨X.K, ca, k⟩ W D μ H ((s1 k ρ m).seq (s2 k)) := h
    show PostS ⟨X.K, ca, k⟩ W { D with nx := tS ⟨X.K, ca, k⟩ W s2 D } μ H (s1 k ρ m)
    revert h
    cases s1 k ρ m with
    | nx ρ1 m1 => exact fun h σ' H' μ' e hm' he' => ⟨ρ1, μ', m1, he', hm', PostS.ext e h⟩
    | rt d m1 => exact fun h => h
    | exc x ρ1 m1 => exact fun h => h
    | bad => exact fun h => h⟩⟩
theorem ss_one (h1 : S? ca k X W st s1) : Ss? ca k X W [st] s1 := ⟨pss_one h1.ps⟩
theorem ss_bad : Ss? ca k X W rest sBad := ⟨PSs.weak pss_never fun D σ H ⟨ρ, μ, m, he, hm, h⟩ => h⟩
theorem s_bad : S? ca k X W st sBad := ⟨PS.weak ps_never fun D σ H ⟨ρ, μ, m, he, hm, h⟩ => h⟩
theorem s_pass : S? ca k X W (.Pass pos) sPass := ⟨PS.weak ps_pass fun D σ H ⟨ρ, μ, m, he, hm, h⟩ => h σ H μ .refl hm he⟩
theorem s_ret (h : E? ca k X W e c) : S? ca k X W (.Return (some e) pos) (sRet c) :=
  ⟨PS.weak (ps_ret h.pe) fun D σ H ⟨ρ, μ, m, he, hm, h⟩ => ⟨ρ, μ, m, he, hm, Post.imp (PostS.st h he) fun x H1 ⟨a, m1, μ1, e1, hm1, r1, h1⟩ => h1 _ _ _ .refl hm1 r1⟩⟩
theorem s_retN : S? ca k X W (.Return none pos) sRetN := ⟨PS.weak ps_retN fun D σ H ⟨ρ, μ, m, he, hm, h⟩ => h _ _ _ .refl hm .non⟩
theorem s_expr (h : E? ca k X W e c) (hs : swapsWith e none pos.line X.env = pure false := by rfl) : S? ca k X W (.Expr e pos) (sExpr c) :=
  ⟨PS.weak (ps_expr h.pe hs) fun D σ H ⟨ρ, μ, m, he, hm, h⟩ => ⟨ρ, μ, m, he, hm, Post.imp (PostS.st h he) fun x H1 ⟨a, m1, μ1, e1, hm1, r1, h1⟩ => h1 _ _ _ .refl hm1 (he.mono e1)⟩⟩
theorem s_set (i : Nat) {x : Str} {pos' : Pos} (h : E? ca k X W e c) (hN : X.N.Nodup) (hi : X.N[i]? = some x := by rfl) (hx : Loc X.env.scope x := by first | exact .inl rfl | exact .inr rfl) (hs : swapsWith e (some (.Name x pos')) pos.line X.env = pure false := by rfl) (hf : X.fn x = true ∨ X.env.scope.names.lookup x = some .local := by first | exact .inl rfl | exact .inr rfl | assumption) :
    S? ca k X W (.Assign [.Name x pos'] e pos) (sAsg (.one i) c) :=
  ⟨PS.weak (ps_set hN hi hx h.pe hs hf) fun D σ H ⟨ρ, μ, m, he, hm, h⟩ => ⟨ρ, μ, m, he, hm, Post.imp (PostS.st h he) fun x H1 ⟨a, m1, μ1, e1, hm1, r1, h1⟩ => h1 _ _ _ .refl hm1 ((he.mono e1).set r1)⟩⟩
theorem s_asg (h : E? ca k X W e c) (hg : PG X tg (gOf X.K t)) (hs : swapsWithSole [tg] e pos.line X.env = pure false := by rfl) (hw : swappedStores [tg] e X.env = pure none := by rfl)
    (h1 : (assignEach [tg] X.env).map (·.2) = [assign tg X.env] := by rfl) : S? ca k X W (.Assign [tg] e pos) (sAsg t c) :=
  ⟨PS.weak (ps_asg h.pe hg hs hw h1) fun D σ H ⟨ρ, μ, m, he, hm, h⟩ => ⟨ρ, μ, m, he, hm, Post.imp (PostS.st h he) fun x H1 ⟨a, m1, μ1, e1, hm1, r1, h1⟩ => by
    cases q : t.put a ρ with
    | none => simp only [q] at h1; exact h1.elim
    | some ρ' =>
      simp only [q] at h1
      exact g_ok q r1 (he.mono e1) fun σ' he' => h1 _ _ _ .refl hm1 he'⟩⟩
theorem s_if (ht : T? ca k X W e tc) (ha : Ss? ca k X W body s1) (hb : Ss? ca k X W orelse s2) : S? ca k X W (.If e body orelse pos) (sIf tc s1 s2) :=
  ⟨PS.weak (ps_if ht.pt ha.pss hb.pss) fun D σ H ⟨ρ, μ, m, he, hm, h⟩ => ⟨ρ, μ, m, he, hm, by
    replace h : PostS ⟨X.K, ca, k⟩ W D μ H (sIf tc s1 s2 k ρ m) := h
    show Post ⟨X.K, ca, k⟩ W σ μ H rB _ (tc k ρ m)
    unfold sIf at h
    revert h
    cases tc k ρ m with
    | ok b m1 =>
      exact fun h x H' μ' e hm' hr => by
        obtain rfl : b = x := hr
        cases b with
        | true => rw [if_pos rfl]; exact ⟨ρ, μ', m1, he.mono e, hm', PostS.ext e h⟩
        | false => rw [if_neg Bool.false_ne_true]; exact ⟨ρ, μ', m1, he.mono e, hm', PostS.ext e h⟩
    | exc x m1 => exact fun h cls d H' μ' e hm' hx => h cls d σ H' μ' e hm' (he.mono e) hx
    | bad => exact fun h => h⟩⟩
theorem s_while (n : Nat) (hp : PassesOwn (model X.prog X.w) X.A X.env X.xe) (ht : T? ca k X W e tc) (hb : Ss? ca k X W body s1) : S? ca k X W (.While e body [] pos) (sWhile n tc s1) :=
  ⟨PS.weak (ps_while hp ht.pt hb.pss) fun D σ H ⟨ρ, μ, m, he, hm, h⟩ => by
    refine ⟨fun n σ H => ∃ ρ μ m, RepE X.K μ H ρ σ ∧ RepM ⟨X.K, ca, k⟩ μ H m ∧ PostS ⟨X.K, ca, k⟩ W D μ H (whileN k tc s1 n ρ m), ⟨n, ρ, μ, m, he, hm, h⟩, fun n σ H ⟨ρ, μ, m, he, hm, h⟩ => ?_⟩
    cases n with
    | zero => exact h.elim
    | succ n =>
      refine ⟨ρ, μ, m, he, hm, ?_⟩
      show Post ⟨X.K, ca, k⟩ W σ μ H rB _ (tc k ρ m)
      unfold whileN at h
      revert h
      cases tc k ρ m with
      | ok b m1 =>
        exact fun h x H' μ' ee hm' hr => by
          obtain rfl : b = x := hr
          cases b with
          | true =>
            rw [if_pos rfl]
            refine ⟨fun σ H => ∃ ρ μ m, RepE X.K μ H ρ σ ∧ RepM ⟨X.K, ca, k⟩ μ H m ∧ PostS ⟨X.K, ca, k⟩ W D μ H (whileN k tc s1 n ρ m), fun σ' H' q => ⟨n, Nat.lt_succ_self n, q⟩, ρ, μ', m1, he.mono ee, hm', ?_⟩
            replace h : PostS ⟨X.K, ca, k⟩ W D μ H ((s1 k ρ m1).seq (whileN k tc s1 n)) := h
            replace h := PostS.ext ee h
            show PostS ⟨X.K, ca, k⟩ W _ μ' H' (s1 k ρ m1)
            revert h
            cases s1 k ρ m1 with
            | nx ρ2 m2 => exact fun h σ2 H2 μ2 e2 hm2 he2 => ⟨ρ2, μ2, m2, he2, hm2, PostS.ext e2 h⟩
            | rt d m2 => exact fun h => h
            | exc x ρ2 m2 => exact fun h => h
            | bad => exact fun h => h
          | false => rw [if_neg Bool.false_ne_true]; exact h σ H' μ' ee hm' (he.mono ee)
      | exc x m1 => exact fun h cls d H' μ' e hm' hx => h cls d σ H' μ' e hm' (he.mono e) hx
      | bad => exact fun h => h⟩

/-! ### what is walked -/
def SrcOk (G : Par) (μ : List Addr) (H : Hp) (s : Src) (J : It) : Prop := ∀ (i : Nat) (μ' : List Addr) (H' : Hp) (m' : Mem), Ext G.K μ H μ' H' → RepM G μ' H' m' → match s i m' with
  | some (some d) => J.go i H' ∧ ∀ x H2, J.yld i H' x H2 → Ext G.K μ' H' μ' H2 ∧ RepM G μ' H2 m' ∧ RepV G.K μ' H2 d x
  | some none => J.stop i H'
  | none => True
abbrev rI' (G : Par) : List Addr → Hp → Src × Nat → It → Prop := fun μ H s J => SrcOk G μ H s.1 J
def tI (G : Par) (W : WX) (ic : IC) : TI := fun σ H R => ∃ ρ μ m, RepE G.K μ H ρ σ ∧ RepM G μ H m ∧ Post G W σ μ H (rI' G) R (ic G.k ρ m)
structure SI (G : Par) (X : Cx) (W : WX) (tg iter : Expr) (ic : IC) : Prop where
  pi : PI X tg iter (tI G W ic)
abbrev I? (ca : Nat → Addr) (k : Ctx) (X : Cx) (W : WX) (tg iter : Expr) (c : IC) : Prop := SI ⟨X.K, ca, k⟩ X W tg iter c
theorem s_for (hi : I? ca k X W tg iter ic) (hg : PG X tg (gOf X.K t)) (hb : Ss? ca k X W body s1) (hp : PassesOwn (model X.prog X.w) X.A X.env X.xe) (hc : X.calm = true) 
    (hs : ∀ x, foldedSetIterable iter X.env x = pure x := by intro _; rfl) : S? ca k X W (.For tg iter body [] pos) (sFor t ic s1) :=
  ⟨PS.weak (ps_for hp hc hi.pi hg hb.pss hs) fun D σ H ⟨ρ, μ, m, he, hm, h⟩ => ⟨ρ, μ, m, he, hm, by
    replace h : PostS ⟨X.K, ca, k⟩ W D μ H (sFor t ic s1 k ρ m) := h
    show Post ⟨X.K, ca, k⟩ W σ μ H (rI' ⟨X.K, ca, k⟩) _ (ic k ρ m)
    unfold sFor at h
    revert h
    cases ic k ρ m with
    | ok sn m1 =>
      obtain ⟨s, n⟩ := sn
      refine fun h J H1 μ1 e1 hm1 hJ => ?_
      replace hJ : SrcOk ⟨X.K, ca, k⟩ μ1 H1 s J := hJ
      replace h : PostS ⟨X.K, ca, k⟩ W D μ1 H1 (forN k s t s1 n 0 ρ m1) := PostS.ext e1 h
      refine ⟨fun i n σ H => ∃ ρ μ m, Ext X.K μ1 H1 μ H ∧ RepE X.K μ H ρ σ ∧ RepM ⟨X.K, ca, k⟩ μ H m ∧ PostS ⟨X.K, ca, k⟩ W D μ H (forN k s t s1 n i ρ m), ⟨n, ρ, μ1, m1, .refl, he.mono e1, hm1, h⟩, fun i n σ H ⟨ρ, μ, m, ee, he, hm, h⟩ => ?_⟩
      have z := hJ i μ H m ee hm
      unfold forN at h
      revert z
      revert h
      cases s i m with
      | none => exact fun h => h.elim
      | some o =>
        cases o with
        | none => exact fun h z => .inl ⟨z, h σ H μ .refl hm he⟩
        | some d =>
          cases n with
          | zero => exact fun h => h.elim
          | succ n =>
            refine fun h z => .inr ⟨z.1, fun σ H => ∃ ρ μ m, Ext X.K μ1 H1 μ H ∧ RepE X.K μ H ρ σ ∧ RepM ⟨X.K, ca, k⟩ μ H m ∧ PostS ⟨X.K, ca, k⟩ W D μ H (forN k s t s1 n (i + 1) ρ m), fun σ' H' q => ⟨n, Nat.lt_succ_self n, q⟩, fun x H2 y => ?_⟩
            obtain ⟨e2, hm2, r2⟩ := z.2 x H2 y
            cases q : t.put d ρ with
            | none => simp only [q] at h; exact h.elim
            | some ρ' =>
              simp only [q] at h
              refine g_ok q r2 (he.mono e2) fun σ' he' => ⟨ρ', μ, m, he', hm2, ?_⟩
              replace h := PostS.ext e2 h
              show PostS ⟨X.K, ca, k⟩ W _ μ H2 (s1 k ρ' m)
              revert h
              cases s1 k ρ' m with
              | nx ρ3 m3 => exact fun h σ3 H3 μ3 e3 hm3 he3 => ⟨ρ3, μ3, m3, ee.trans (e2.trans e3), he3, hm3, PostS.ext e3 h⟩
              | rt d m3 => exact fun h => h
              | exc x ρ3 m3 => exact fun h => h
              | bad => exact fun h => h
    | exc x m1 => exact fun h cls d H' μ' e hm' hx => h cls d σ H' μ' e hm' (he.mono e) hx
    | bad => exact fun h => h⟩⟩
end
end CB

set_option Elab.async false
set_option linter.all false
set_option maxRecDepth 100000
set_option maxHeartbeats 4000000
namespace CB
open PySem PySem.Spec PyProof.Rows L2

/-! ### comprehensions -/
theorem wipe_get {σ : L2.St} {j : Nat} : ∀ {vs : List Nat}, (wipe σ vs)[j]? = if j ∈ vs then σ[j]?.map (fun _ => none) else σ[j]?
  | [] => by simp [wipe]
  | v :: vs => by
    unfold wipe
    by_cases h : v = j
    · subst h
      rw [List.getElem?_set_self', if_pos (by simp), wipe_get]
      split <;> simp [Option.map_map]
      cases σ[v]? <;> rfl
      cases σ[v]? <;> rfl
    · rw [List.getElem?_set_ne h, wipe_get]
      by_cases h2 : j ∈ vs
      · rw [if_pos h2, if_pos (List.mem_cons_of_mem _ h2)]
      · rw [if_neg h2, if_neg (by simp [h2]; exact fun z => h z.symm)]
theorem wipe_set {σ : L2.St} {i : Nat} {x : Option V} {vs : List Nat} (h : i ∈ vs) : wipe (σ.set i x) vs = wipe σ vs := by
  apply List.ext_getElem?
  intro j
  rw [wipe_get, wipe_get]
  by_cases hj : i = j
  · subst hj
    rw [if_pos h, if_pos h, List.getElem?_set_self']
    cases σ[i]? <;> rfl
  · rw [List.getElem?_set_ne hj]
theorem wipe_wipe {σ : L2.St} {vs : List Nat} : wipe (wipe σ vs) vs = wipe σ vs := by
  apply List.ext_getElem?
  intro j
  rw [wipe_get, wipe_get]
  by_cases h : j ∈ vs
  · rw [if_pos h, if_pos h]; cases σ[j]? <;> rfl
  · rw [if_neg h, if_neg h]
theorem wipeE_ok {K : PySem.W.Frag} {μ : List Addr} {H : Hp} {ρ : Env} {σ : L2.St} (h : RepE K μ H ρ σ) : ∀ vs : List Nat, RepE K μ H (wipeE ρ vs) (wipe σ vs)
  | [] => h
  | v :: vs => by
    have ih := wipeE_ok h vs
    unfold wipeE wipe
    refine ⟨by simp [ih.len], fun j d q => ?_⟩
    by_cases hj : v = j
    · subst hj
      rw [List.getElem?_set_self'] at q
      cases z : (wipeE ρ vs)[v]? with
      | none => rw [z] at q; cases q
      | some _ => rw [z] at q; cases q
    · rw [List.getElem?_set_ne hj] at q
      obtain ⟨w, a, b⟩ := ih.get j d q
      exact ⟨w, by rw [List.getElem?_set_ne hj]; exact a, b⟩
def Tg.slots : Tg → List Nat
  | .one i => [i]
  | .tup is => is
theorem gs_ok2 {K : PySem.W.Frag} {μ : List Addr} {H : Hp} {own : List Nat} : ∀ {is : List Nat} {ds : List D} {vs : List V} {ρ ρ' : Env} {σ : L2.St} {Q : L2.St → Hp → Prop}, setAll is ds ρ = some ρ' → RepVs K μ H ds vs → RepE K μ H ρ σ → (∀ i ∈ is, i ∈ own) → (∀ σ', RepE K μ H ρ' σ' → wipe σ' own = wipe σ own → Q σ' H) → gsOf is vs σ H Q
  | [], [], _, _, _, _, _, h, .nil, he, _, q => by cases h; exact ⟨rfl, q _ he rfl⟩
  | i :: is, d :: ds, _, _, _, _, _, h, .cons r t, he, ho, q => ⟨_, _, rfl, gs_ok2 (is := is) h t (he.set r) (fun j hj => ho j (List.mem_cons_of_mem _ hj)) fun σ' he' hw => q σ' he' (hw.trans (wipe_set (ho i List.mem_cons_self)))⟩
  | [], _ :: _, _, _, _, _, _, h, _, _, _, _ => nomatch h
  | _ :: _, [], _, _, _, _, _, h, _, _, _, _ => nomatch h
theorem g_ok2 {K : PySem.W.Frag} {μ : List Addr} {H : Hp} {own : List Nat} {t : Tg} {d : D} {v : V} {ρ ρ' : Env} {σ : L2.St} {Q : L2.St → Hp → Prop} (h : t.put d ρ = some ρ') (r : RepV K μ H d v) (he : RepE K μ H ρ σ) (ho : ∀ i ∈ t.slots, i ∈ own) (q : ∀ σ', RepE K μ H ρ' σ' → wipe σ' own = wipe σ own → Q σ' H) : gOf K t v σ H Q := by
  cases t with
  | one i => cases h; exact q _ (he.set r) (wipe_set (ho i List.mem_cons_self))
  | tup is =>
    cases r with
    | tup hs hr => exact ⟨_, _, rfl, hs, by rw [← hr.len]; exact setAll_len h, gs_ok2 h hr he ho q⟩
    | _ => exact nomatch h
abbrev W0 : WX := fun _ _ _ _ => False
section
variable {ca : Nat → Addr} {k : Ctx} {X : Cx} {W : WX} {e : Expr} {c : EC} {pos : Pos} {q : TC} {tg elt iter : Expr} {t : Tg} {ic : IC} {ifs : List Expr} {scope : Scope} {own : List (Str × Nat)}
structure SP (ca : Nat → Addr) (k : Ctx) (X : Cx) (W : WX) (e : List Expr) (c : TC) : Prop where
  pts : PTs X e (tT ⟨X.K, ca, k⟩ W c)
theorem PTs.weak {X : Cx} {e : List Expr} {t t' : TT} (h : PTs X e t) (w : ∀ σ H Q, t' σ H Q → t σ H Q) : PTs X e t' := ⟨fun pins s σ H Q I q => h.run pins s σ H Q I (w _ _ _ q)⟩
theorem sp_nil : SP ca k X W [] tcYes := ⟨PTs.weak pts_nil fun σ H Q ⟨ρ, μ, m, he, hm, h⟩ => Post.okk h hm rfl⟩
theorem sp_one (h : T? ca k X W e q) : SP ca k X W [e] q := ⟨pts_one h.pt⟩
theorem lc_w {σ : L2.St} {H : Hp} {Q : VK} (ho : ∀ i ∈ t.slots, i ∈ own.map (·.2)) (h : tE ⟨X.K, ca, k⟩ W (eLc (own.map (·.2)) t ic q c) σ H Q) : tLc (tI ⟨X.K, ca, k⟩ W ic) (gOf X.K t) (tT ⟨X.K, ca, k⟩ W0 q) (tE ⟨X.K, ca, k⟩ W0 c) (own.map (·.2)) σ H Q := by
  obtain ⟨ρ, μ, m, he, hm, h⟩ := h
  refine ⟨ρ, μ, m, he, hm, ?_⟩
  replace h : Post ⟨X.K, ca, k⟩ W σ μ H (rD ⟨X.K, ca, k⟩) Q (eLc (own.map (·.2)) t ic q c k ρ m) := h
  show Post ⟨X.K, ca, k⟩ W σ μ H (rI' ⟨X.K, ca, k⟩) _ (ic k ρ m)
  unfold eLc at h
  revert h
  cases ic k ρ m with
  | exc x m1 => exact fun h => h
  | bad => exact fun h => h
  | ok sn m1 =>
    obtain ⟨s, n⟩ := sn
    refine fun h J H1 μ1 e1 hm1 hJ D hD => ?_
    replace hJ : SrcOk ⟨X.K, ca, k⟩ μ1 H1 s J := hJ
    replace h : Post ⟨X.K, ca, k⟩ W σ μ1 H1 (rD ⟨X.K, ca, k⟩) Q (lcN k s t q c m1.length (wipeE ρ (own.map (·.2))) n 0 (Mem.push m1 (.lst []))) := Post.ext e1 h
    have e2 : Ext X.K μ1 H1 (μ1 ++ [D]) (upd H1 D (.lst [])) := (Ext.new hD).snoc
    have hm2 : RepM ⟨X.K, ca, k⟩ (μ1 ++ [D]) (upd H1 D (.lst [])) (Mem.push m1 (.lst [])) := hm1.push hD ⟨[], upd_same, .nil⟩
    have hiD : (μ1 ++ [D])[m1.length]? = some D := by rw [← hm1.len]; simp
    refine ⟨fun i n H => ∃ μ m, Ext X.K (μ1 ++ [D]) (upd H1 D (.lst [])) μ H ∧ RepM ⟨X.K, ca, k⟩ μ H m ∧ Post ⟨X.K, ca, k⟩ W σ μ H (rD ⟨X.K, ca, k⟩) Q (lcN k s t q c m1.length (wipeE ρ (own.map (·.2))) n i m), ⟨n, μ1 ++ [D], _, .refl, hm2, Post.ext e2 h⟩, ?_⟩
    rintro i n H2 ⟨μ2, m2, e3, hm3, h2⟩
    have z := hJ i μ2 H2 m2 (e2.trans e3) hm3
    unfold lcN at h2
    revert z
    revert h2
    cases s i m2 with
    | none => exact fun h => h.elim
    | some o =>
      cases o with
      | none => exact fun h z => .inl ⟨z, Post.okk h hm3 (.ref (e3.pre _ _ hiD))⟩
      | some d =>
        cases n with
        | zero => exact fun h => h.elim
        | succ n =>
          refine fun h z => .inr ⟨z.1, fun H => ∃ μ m, Ext X.K (μ1 ++ [D]) (upd H1 D (.lst [])) μ H ∧ RepM ⟨X.K, ca, k⟩ μ H m ∧ Post ⟨X.K, ca, k⟩ W σ μ H (rD ⟨X.K, ca, k⟩) Q (lcN k s t q c m1.length (wipeE ρ (own.map (·.2))) n (i + 1) m), fun H' q => ⟨n, Nat.lt_succ_self n, q⟩, fun x H4 y => ?_⟩
          obtain ⟨e4, hm4, r4⟩ := z.2 x H4 y
          cases qp : t.put d (wipeE ρ (own.map (·.2))) with
          | none => simp only [qp] at h; exact h.elim
          | some ρ' =>
            simp only [qp] at h
            refine g_ok2 qp r4 (wipeE_ok ((((he.mono e1).mono e2).mono e3).mono e4) _) ho fun σ' he' hw => ⟨by rw [hw, wipe_wipe], ρ', μ2, m2, he', hm4, ?_⟩
            replace h := Post.ext e4 h
            show Post ⟨X.K, ca, k⟩ W0 σ' μ2 H4 rB _ (q k ρ' m2)
            revert h
            cases q k ρ' m2 with
            | exc x m5 => exact fun h => h.elim
            | bad => exact fun h => h
            | ok b m5 =>
              refine fun h b' H5 μ5 e5 hm5 rb => ?_
              obtain rfl : b = b' := rb
              cases b with
              | false =>
                rw [if_neg Bool.false_ne_true]
                exact ⟨μ5, m5, e3.trans (e4.trans e5), hm5, Post.ext e5 h⟩
              | true =>
                rw [if_pos rfl]
                refine ⟨ρ', μ5, m5, he'.mono e5, hm5, ?_⟩
                replace h := Post.ext e5 h
                show Post ⟨X.K, ca, k⟩ W0 σ' μ5 H5 (rD ⟨X.K, ca, k⟩) _ (c k ρ' m5)
                revert h
                dsimp only
                cases c k ρ' m5 with
                | exc x m6 => exact fun h => h.elim
                | bad => exact fun h => h
                | ok dy m6 =>
                  refine fun h y' H6 μ6 e6 hm6 ry => ?_
                  dsimp only at h
                  rw [nth_eq] at h
                  have e16 : Ext X.K (μ1 ++ [D]) (upd H1 D (.lst [])) μ6 H6 := e3.trans (e4.trans (e5.trans e6))
                  have hD6 : μ6[m1.length]? = some D := e16.pre _ _ hiD
                  cases qc : m6[m1.length]? with
                  | none => rw [qc] at h; exact h.elim
                  | some cc =>
                    rw [qc] at h
                    cases cc with
                    | lst acc =>
                      dsimp only at h
                      split at h
                      · rename_i hl
                        obtain ⟨vs, hv, rv⟩ := hm6.cell _ _ _ hD6 qc
                        have hp := hm6.put (c := .lst (acc ++ [dy])) (o := .lst (vs ++ [y'])) hD6 hv (fun _ z => nomatch z) (fun _ _ z => nomatch z) (fun b hb => .inl (hm1.base b hb)) ⟨_, upd_same, ?_⟩
                        · exact ⟨vs, hv, by rw [← rv.len]; exact lim_line' hl, μ6, _, e16.trans hp.2, hp.1, Post.ext hp.2 (Post.ext e6 h)⟩
                        · have ex : Ext X.K μ6 H6 μ6 (upd H6 D (.lst (vs ++ [y']))) := ⟨fun _ _ h => h, fun _ _ h => SqT.upd_mut hv (fun _ z => nomatch z) (fun _ _ z => nomatch z) h⟩
                          exact (rv.append (.one ry)).mono ex
                      · exact h.elim
                    | _ => exact h.elim
theorem so_lc (hi : I? ca k X W tg iter ic) (ok : BlkOk X.N X.env.scope scope own) (ho : (t.slots.all fun i => (own.map (·.2)).contains i) = true) 
    (hg : ∀ (s : Shared) (H : Hp) (C : Addr) (cl : List (Str × Addr)) (fp : List Addr), PG (X.blk s H scope (compEnvC scope cl C X.env) fp) tg (gOf X.K t)) (ht : ∀ (s : Shared) (H : Hp) (C : Addr) (cl : List (Str × Addr)) (fp : List Addr), SP ca k (X.blk s H scope (compEnvC scope cl C X.env) fp) W0 ifs q)
    (he : ∀ (s : Shared) (H : Hp) (C : Addr) (cl : List (Str × Addr)) (fp : List Addr), E? ca k (X.blk s H scope (compEnvC scope cl C X.env) fp) W0 elt c) (hc : X.calm = true) (hN : X.N.Nodup) (hs : ∀ x, foldedSetIterable iter X.env x = pure x := by intro _; rfl) :
    E? ca k X W (.ListComp elt [⟨tg, iter, ifs, 0⟩] scope pos) (eLc (own.map (·.2)) t ic q c) :=
  ⟨PE.weak (pe_lc hc hN hi.pi ok hg (fun s H C cl fp => (ht s H C cl fp).pts) (fun s H C cl fp => (he s H C cl fp).pe) hs) fun σ H Q h => lc_w (fun i hi => by
    have := List.all_eq_true.mp ho i hi
    simpa using this) h⟩
theorem s_setLc (i : Nat) {y : Str} {py spos : Pos} (hi : I? ca k X W tg iter ic) (ok : BlkOk X.N X.env.scope scope own) (ho : (t.slots.all fun i => (own.map (·.2)).contains i) = true) 
    (hg : ∀ (s : Shared) (H : Hp) (C : Addr) (cl : List (Str × Addr)) (fp : List Addr), PG (X.blk s H scope (compEnvC scope cl C X.env) fp) tg (gOf X.K t)) (ht : ∀ (s : Shared) (H : Hp) (C : Addr) (cl : List (Str × Addr)) (fp : List Addr), SP ca k (X.blk s H scope (compEnvC scope cl C X.env) fp) W0 ifs q)
    (he : ∀ (s : Shared) (H : Hp) (C : Addr) (cl : List (Str × Addr)) (fp : List Addr), E? ca k (X.blk s H scope (compEnvC scope cl C X.env) fp) W0 elt c) (hc : X.calm = true) (hN : X.N.Nodup)
    (hsw : swapsWith (.ListComp elt [⟨tg, iter, ifs, 0⟩] scope pos) (some (.Name y py)) spos.line X.env = pure true) (hy : X.N[i]? = some y := by rfl) (hyl : X.env.scope.names.lookup y = some .local := by rfl) (hs : ∀ x, foldedSetIterable iter X.env x = pure x := by intro _; rfl) :
    S? ca k X W (.Assign [.Name y py] (.ListComp elt [⟨tg, iter, ifs, 0⟩] scope pos) spos) (sAsg (.one i) (eLc (own.map (·.2)) t ic q c)) :=
  ⟨PS.weak (ps_setLc hc hN hy hyl hsw hi.pi ok hg (fun s H C cl fp => (ht s H C cl fp).pts) (fun s H C cl fp => (he s H C cl fp).pe) hs) fun D σ H ⟨ρ, μ, m, hE, hm, h⟩ => by
    refine lc_w (Q := fun x H1 => gName i x σ H1 D.nx) (fun i hi => by
      have := List.all_eq_true.mp ho i hi
      simpa using this) ⟨ρ, μ, m, hE, hm, Post.imp (PostS.st h hE) fun x H1 ⟨a, m1, μ1, e1, hm1, r1, h1⟩ => h1 _ _ _ .refl hm1 ((hE.mono e1).set r1)⟩⟩

/-! ### functions -/
def PassW (X : Cx) (W : WX) : Prop := ∀ σ, PassesAt (L2.CX X.prog X.w) X σ (WE W σ)
theorem pw_tk (tk : Takes X W) : PassW X W := fun σ => passAt tk σ
theorem pw_0 : PassW X W0 := fun _ _ _ _ _ _ _ h => by
  obtain ⟨_, _, _, _, _, _, _, _, _, _, _, _, z⟩ := h
  exact z.elim
def spF (K : PySem.W.Frag) (ca : Nat → Addr) (n : Nat) (f : FC) : Sp := fun vs H Q E => ∃ k μ m ds, RepM ⟨K, ca, k⟩ μ H m ∧ RepVs K μ H ds vs ∧ ds.length = n ∧ Post ⟨K, ca, k⟩ (fun c d _ H => E c d H) [] μ H (rD ⟨K, ca, k⟩) Q (f k ds m)
structure Cal (P : Program) (w : World) (K : PySem.W.Frag) (mg : Str → Option Value) (base : Heap) (ca : Nat → Addr) (x : Str) (ps : List Str) (f : FC) (lv : Nat) : Prop where
  ex : ∃ (a : Addr) (fd : FuncData), FnOk P w K mg base (L2.CX P w) lv a fd ps (spF K ca ps.length f) ∧ mg x = some (.ref a) ∧ PySem.W.keepIn K (.ref a) = true ∧ Binds K fd ps []
/-- how many values an argument list has -/
def ArOk (n : Nat) (as : AC) : Prop := ∀ k ρ m, match as k ρ m with | .ok xs _ => xs.length = n | _ => True
theorem ar_nil : ArOk 0 aNil := fun _ _ _ => rfl
theorem ar_cons {n : Nat} {c : EC} {as : AC} (h : ArOk n as) : ArOk (n + 1) (aCons c as) := fun k ρ m => by
  unfold aCons
  cases c k ρ m with
  | ok d m1 =>
    have q := h k ρ m1
    show match (as k ρ m1).bind fun xs m => .ok (d :: xs) m with | .ok xs _ => xs.length = n + 1 | _ => True
    revert q
    cases as k ρ m1 with
    | ok xs m2 => exact fun q => congrArg (· + 1) q
    | exc x m2 => exact fun _ => trivial
    | bad => exact fun _ => trivial
  | exc x m1 => trivial
  | bad => trivial
theorem so_call {x : Str} {ps : List Str} {f : FC} {lv : Nat} {p : Pos} {es : List Expr} {as : AC} (C : Cal X.prog X.w X.K X.mg X.base ca x ps f lv) (hx : PassW X W) {e : Expr} (ha : A? ca k X W (e :: es) as) (hr : Room lv X.A) (hg : Gl X x := by rfl) (hl : ps.length = (e :: es).length := by rfl) (hdb : (x == ("__debug__" : Str)) = false := by decide) (he : starEach (e :: es) X.env = (false, eval e X.env) :: starEach es X.env := by rfl) (hpl : (backTo pos (starEach es X.env)).any (·.1) = false := by rfl) 
    (hn : ArOk (e :: es).length as) : E? ca k X W (.Call (.Name x p) (e :: es) [] pos) (eCall f as) := by
  obtain ⟨a, fd, F, hm, hk, hb⟩ := C.ex
  refine ⟨PE.weak (pe_callS (E := WE W) F hr hg hm hk hb hx ha.pa hdb he hpl) fun σ H Q ⟨ρ, μ, m, hE, hM, h⟩ => ?_⟩
  refine ⟨ρ, μ, m, hE, hM, ?_⟩
  have hn' := hn k ρ m
  replace h : Post ⟨X.K, ca, k⟩ W σ μ H (rD ⟨X.K, ca, k⟩) Q ((as k ρ m).bind fun xs m => f k xs m) := h
  show Post ⟨X.K, ca, k⟩ W σ μ H (rDs ⟨X.K, ca, k⟩) _ (as k ρ m)
  revert h
  revert hn'
  cases as k ρ m with
  | ok xs m1 =>
    intro hn' h vs H1 μ1 e1 hm1 r1
    refine ⟨k, μ1, m1, xs, hm1, r1, by rw [hl]; exact hn', ?_⟩
    replace h := Post.ext e1 h
    replace h : Post ⟨X.K, ca, k⟩ W σ μ1 H1 (rD ⟨X.K, ca, k⟩) Q (f k xs m1) := h
    revert h
    cases f k xs m1 with
    | ok d m2 => exact fun h => h
    | exc x m2 => exact fun h => h
    | bad => exact fun h => h
  | exc x m1 => exact fun _ h => h
  | bad => exact fun _ h => h
end

/-! what a call leaves -/
mutual
theorem RepV.cut {K : PySem.W.Frag} {μ μ' : List Addr} {H : Hp} {n : Nat} (hp : ∀ (i : Nat) (a : Addr), i < n → μ[i]? = some a → μ'[i]? = some a) : ∀ {d : D} {v : V}, RepV K μ H d v → d.lo n = true → RepV K μ' H d v
  | _, _, .non, _ => .non
  | _, _, .bl, _ => .bl
  | _, _, .int, _ => .int
  | _, _, .str, _ => .str
  | _, _, .tup h hs, hl => .tup h (RepVs.cut hp hs (by simpa [D.lo] using hl))
  | _, _, .ref h, hl => .ref (hp _ _ (Nat.blt_eq.mp (by simpa [D.lo] using hl)) h)
theorem RepVs.cut {K : PySem.W.Frag} {μ μ' : List Addr} {H : Hp} {n : Nat} (hp : ∀ (i : Nat) (a : Addr), i < n → μ[i]? = some a → μ'[i]? = some a) : ∀ {d : List D} {v : List V}, RepVs K μ H d v → D.loL n d = true → RepVs K μ' H d v
  | _, _, .nil, _ => .nil
  | _, _, .cons h hs, hl => by
    have z : (_ && _) = true := hl
    rw [Bool.and_eq_true] at z
    exact .cons (RepV.cut hp h z.1) (RepVs.cut hp hs z.2)
end
theorem RepKV.cut {K : PySem.W.Frag} {μ μ' : List Addr} {H : Hp} {n : Nat} {κ : Type} {f : κ → D} (hp : ∀ (i : Nat) (a : Addr), i < n → μ[i]? = some a → μ'[i]? = some a) {ds : List (D × D)} {vs : List (κ × V)} (h : RepKV K μ H f ds vs) (hl : (ds.all fun p => p.1.lo n && p.2.lo n) = true) : RepKV K μ' H f ds vs := by
  induction h with
  | nil => exact .nil
  | cons r _ ih =>
    rw [List.all_cons, Bool.and_eq_true, Bool.and_eq_true] at hl
    exact .cons (r.cut hp hl.1.2) (ih hl.2)
theorem RepFs.cut {K : PySem.W.Frag} {μ μ' : List Addr} {H : Hp} {n : Nat} (hp : ∀ (i : Nat) (a : Addr), i < n → μ[i]? = some a → μ'[i]? = some a) {ds : List (Str × D)} {vs : List (Str × V)} (h : RepFs K μ H ds vs) (hl : (ds.all fun p => p.2.lo n) = true) : RepFs K μ' H ds vs := by
  induction h with
  | nil => exact .nil
  | cons r _ ih =>
    rw [List.all_cons, Bool.and_eq_true] at hl
    exact .cons (r.cut hp hl.1) (ih hl.2)
theorem RepC.cut {K : PySem.W.Frag} {ca : Nat → Addr} {μ μ' : List Addr} {H : Hp} {n : Nat} {a : Addr} {c : Cell} (hp : ∀ (i : Nat) (a : Addr), i < n → μ[i]? = Option.some a → μ'[i]? = Option.some a) (h : RepC K ca μ H a c) (hl : c.lo n = true) : RepC K ca μ' H a c := by
  cases c with
  | lst ds => obtain ⟨vs, e, r⟩ := h; exact ⟨vs, e, r.cut hp hl⟩
  | frz ds => obtain ⟨vs, o, e, r⟩ := h; exact ⟨vs, o, e, r.cut hp hl⟩
  | dK ds => obtain ⟨vs, e, r⟩ := h; exact ⟨vs, e, r.cut hp hl⟩
  | dT ds => obtain ⟨vs, e, r⟩ := h; exact ⟨vs, e, r.cut hp hl⟩
  | ins _ ds => obtain ⟨dx, vs, e, r⟩ := h; exact ⟨dx, vs, e, r.cut hp hl⟩
  | exc _ _ => exact h.elim
section
variable {K : PySem.W.Frag} {ca : Nat → Addr} {k : Ctx} {μ μ' : List Addr} {H H' : Hp} {m m' : Mem} {n : Nat}
theorem take_get {α : Type} {l : List α} {n i : Nat} {a : α} (h : (l.take n)[i]? = some a) : i < n ∧ l[i]? = some a := by
  rw [List.getElem?_take] at h
  split at h
  · exact ⟨by assumption, h⟩
  · cases h
/-- the callee's own cells are let go -/
theorem RepM.take (hb : ∀ b ∈ k, b ≤ n) (h : RepM ⟨K, ca, n :: k⟩ μ H m) : RepM ⟨K, ca, k⟩ (μ.take n) H (m.take n) := by
  have hp : ∀ (i : Nat) (a : Addr), i < n → μ[i]? = some a → (μ.take n)[i]? = some a := fun i a hi e => by rw [List.getElem?_take_of_lt hi]; exact e
  have hn : n ≤ m.length := h.base n List.mem_cons_self
  refine ⟨by simp [h.len], h.nd.sublist (List.take_sublist _ _), fun i a c h1 h2 => ?_, fun b hb' => ?_, fun b hb' i c hi h2 => ?_⟩
  · obtain ⟨q1, h1⟩ := take_get h1
    obtain ⟨_, h2⟩ := take_get h2
    exact (h.cell i a c h1 h2).cut hp (h.old n List.mem_cons_self i c q1 h2)
  · have := hb b hb'
    show b ≤ (m.take n).length
    rw [List.length_take]
    omega
  · exact h.old b (List.mem_cons_of_mem _ hb') i c hi (take_get h2).2
theorem RepM.up (h : RepM ⟨K, ca, n :: k⟩ μ H m) : RepM ⟨K, ca, k⟩ μ H m := ⟨h.len, h.nd, h.cell, fun b hb => h.base b (List.mem_cons_of_mem _ hb), fun b hb => h.old b (List.mem_cons_of_mem _ hb)⟩
theorem gc_ok {W : WX} {σ : L2.St} {Q : VK} {μ0 : List Addr} {H0 : Hp} {d : D} {v : V} (h : Post ⟨K, ca, k⟩ W σ μ0 H0 (rD ⟨K, ca, k⟩) Q (gcR n d m)) (hl : μ0.length = n) (e : Ext K μ0 H0 μ H) (hb : ∀ b ∈ k, b ≤ n) (hm : RepM ⟨K, ca, n :: k⟩ μ H m) (r : RepV K μ H d v) : Q v H := by
  have hp : ∀ (i : Nat) (a : Addr), i < n → μ[i]? = some a → (μ.take n)[i]? = some a := fun i a hi e => by rw [List.getElem?_take_of_lt hi]; exact e
  have e2 : Ext K μ0 H0 (μ.take n) H := ⟨fun i a q => by
    have hi : i < μ0.length := by
      rcases Nat.lt_or_ge i μ0.length with z | z
      · exact z
      · rw [List.getElem?_eq_none z] at q; cases q
    exact hp i a (hl ▸ hi) (e.pre i a q), e.tup⟩
  have keep : Post ⟨K, ca, k⟩ W σ μ0 H0 (rD ⟨K, ca, k⟩) Q (.ok d m) → Q v H := fun h => h v H μ e hm.up r
  unfold gcR at h
  split at h
  · rename_i hd
    exact h v H _ e2 (hm.take hb) (r.cut hp hd)
  · rename_i hd
    split at h
    · rename_i i
      cases r with
      | ref hi =>
        rename_i a
        rw [nth_eq] at h
        split at h
        · rename_i ds hc
          split at h
          · rename_i hlo
            have hni : n ≤ i := by
              have : ¬ (Nat.blt i n = true) := fun z => hd (by simpa [D.lo] using z)
              rw [Nat.blt_eq] at this
              omega
            have hn : n ≤ m.length := hm.base n List.mem_cons_self
            obtain ⟨vs, hv, rv⟩ := hm.cell _ _ _ hi hc
            have ht := hm.take hb
            have hlen : (μ.take n).length = n := by rw [List.length_take, hm.len]; omega
            have hna : a ∉ μ.take n := fun z => by
              obtain ⟨j, hj⟩ := List.getElem?_of_mem z
              obtain ⟨hjn, hj⟩ := take_get hj
              have hi' : j < μ.length := by rw [hm.len]; omega
              have := (List.getElem?_inj hi' hm.nd).mp (hj.trans hi.symm)
              omega
            have hps : ∀ (i : Nat) (b : Addr), (μ.take n)[i]? = some b → (μ.take n ++ [a])[i]? = some b := fun i b q => by
              rw [List.getElem?_append_left (by rw [hlen]; exact (take_get q).1)]
              exact q
            have e3 : Ext K (μ.take n) H (μ.take n ++ [a]) H := ⟨hps, fun _ _ q => q⟩
            refine h (.ref a) H (μ.take n ++ [a]) (e2.trans e3) ⟨?_, ?_, ?_, ?_, ?_⟩ (.ref ?_)
            · rw [List.length_append, List.length_append, hlen, List.length_take, Nat.min_eq_left hn]; rfl
            · rw [List.nodup_append]
              refine ⟨ht.nd, by simp, fun x hx y hy => ?_⟩
              rw [List.mem_singleton] at hy
              subst hy
              exact fun z => hna (z ▸ hx)
            · intro j b c h1 h2
              rcases Nat.lt_or_ge j n with q | q
              · rw [List.getElem?_append_left (by rw [hlen]; exact q)] at h1
                rw [List.getElem?_append_left (by rw [List.length_take]; omega)] at h2
                have r1 := ht.cell j b c h1 h2
                exact r1.stay e3 rfl
              · rw [List.getElem?_append_right (by rw [hlen]; exact q), hlen] at h1
                rw [List.getElem?_append_right (by rw [List.length_take]; omega), List.length_take, Nat.min_eq_left hn] at h2
                have j0 : j - n = 0 := by
                  rcases Nat.eq_zero_or_pos (j - n) with z | z
                  · exact z
                  · rw [List.getElem?_eq_none (by simp; omega)] at h1; cases h1
                rw [j0] at h1 h2
                simp at h1 h2
                subst h1 h2
                exact ⟨vs, hv, (rv.cut hp hlo).mono e3⟩
            · intro b hb'
              have := hb b hb'
              show b ≤ (m.take n ++ [Cell.lst ds]).length
              rw [List.length_append, List.length_take]
              omega
            · intro b hb' j c hj h2
              have hbn := hb b hb'
              rw [List.getElem?_append_left (by rw [List.length_take]; omega)] at h2
              exact ht.old b hb' j c hj h2
            · rw [List.getElem?_append_right (by rw [hlen]; exact Nat.le_refl _), hlen]
              simp
          · exact keep h
        · exact keep h
    · exact keep h
end

mutual
theorem RepV.lo {K : PySem.W.Frag} {μ : List Addr} {H : Hp} {n : Nat} (hn : μ.length = n) : ∀ {d : D} {v : V}, RepV K μ H d v → d.lo n = true
  | _, _, .non => rfl
  | _, _, .bl => rfl
  | _, _, .int => rfl
  | _, _, .str => rfl
  | _, _, .tup h hs => RepVs.lo hn hs
  | _, _, @RepV.ref _ _ _ i a h => by
    show Nat.blt i n = true
    rw [Nat.blt_eq]
    rcases Nat.lt_or_ge i μ.length with z | z
    · omega
    · rw [List.getElem?_eq_none z] at h; cases h
theorem RepVs.lo {K : PySem.W.Frag} {μ : List Addr} {H : Hp} {n : Nat} (hn : μ.length = n) : ∀ {d : List D} {v : List V}, RepVs K μ H d v → D.loL n d = true
  | _, _, .nil => rfl
  | _, _, .cons h hs => by
    show (_ && _) = true
    rw [RepV.lo hn h, RepVs.lo hn hs]; rfl
end
theorem dKey_lo (q : Key) (n : Nat) : (dKey q).lo n = true := by cases q <;> rfl
theorem dKeys_lo (n : Nat) : ∀ q : List Key, D.loL n (q.map dKey) = true
  | [] => rfl
  | a :: q => by
    show (_ && _) = true
    rw [dKey_lo, dKeys_lo n q]; rfl
theorem RepKV.lo {K : PySem.W.Frag} {μ : List Addr} {H : Hp} {n : Nat} {κ : Type} {f : κ → D} (hn : μ.length = n) (hf : ∀ q, (f q).lo n = true) {ds : List (D × D)} {vs : List (κ × V)} (h : RepKV K μ H f ds vs) : (ds.all fun p => p.1.lo n && p.2.lo n) = true := by
  induction h with
  | nil => rfl
  | cons r _ ih => rw [List.all_cons, ih, hf, r.lo hn]; rfl
theorem RepFs.lo {K : PySem.W.Frag} {μ : List Addr} {H : Hp} {n : Nat} (hn : μ.length = n) {ds : List (Str × D)} {vs : List (Str × V)} (h : RepFs K μ H ds vs) : (ds.all fun p => p.2.lo n) = true := by
  induction h with
  | nil => rfl
  | cons r _ ih => rw [List.all_cons, ih, r.lo hn]; rfl
theorem RepC.lo {K : PySem.W.Frag} {ca : Nat → Addr} {μ : List Addr} {H : Hp} {n : Nat} {a : Addr} {c : Cell} (hn : μ.length = n) (h : RepC K ca μ H a c) : c.lo n = true := by
  cases c with
  | lst ds => obtain ⟨vs, e, r⟩ := h; exact r.lo hn
  | frz ds => obtain ⟨vs, o, e, r⟩ := h; exact r.lo hn
  | dK ds => obtain ⟨vs, e, r⟩ := h; exact r.lo hn fun q => dKey_lo q n
  | dT ds => obtain ⟨vs, e, r⟩ := h; exact RepKV.lo (f := fun ks : List Key => D.tup (ks.map dKey)) hn (fun q => dKeys_lo n q) r
  | ins _ ds => obtain ⟨dx, vs, e, r⟩ := h; exact r.lo hn
  | exc _ _ => exact h.elim
/-- at a call -/
theorem RepM.enter {K : PySem.W.Frag} {ca : Nat → Addr} {k : Ctx} {μ : List Addr} {H : Hp} {m : Mem} (hm : RepM ⟨K, ca, k⟩ μ H m) : RepM ⟨K, ca, m.length :: k⟩ μ H m := by
  refine ⟨hm.len, hm.nd, hm.cell, fun b hb => ?_, fun b hb i c hi e => ?_⟩
  · rcases List.mem_cons.mp hb with z | z
    · rw [z]; exact Nat.le_refl _
    · exact hm.base b z
  · rcases List.mem_cons.mp hb with z | z
    · subst z
      have hi' : i < μ.length := by rw [hm.len]; exact hi
      exact (hm.cell i _ c (List.getElem?_eq_getElem hi') e).lo hm.len
    · exact hm.old b z i c hi e
section
variable {P : Program} {w : World} {K : PySem.W.Frag} {mg : Str → Option Value} {base : Heap} {ca : Nat → Addr}
theorem startE_ok {μ : List Addr} {H : Hp} {ds : List D} {vs : List V} (r : RepVs K μ H ds vs) (N : List Str) : RepE K μ H (startE N.length ds) (L2.start N vs) := by
  unfold startE L2.start
  refine ⟨by simp [r.len], fun i d q => ?_⟩
  rcases Nat.lt_or_ge i ds.length with h | h
  · rw [List.getElem?_append_left (by simpa using h), List.getElem?_map] at q
    cases e : ds[i]? with
    | none => rw [e] at q; cases q
    | some d' =>
      rw [e] at q
      simp at q
      subst q
      obtain ⟨v, hv, rv⟩ := r.get e
      refine ⟨v, ?_, rv⟩
      rw [List.getElem?_append_left (by rw [List.length_map, ← r.len]; exact h), List.getElem?_map, hv]
      rfl
  · rw [List.getElem?_append_right (by simpa using h), List.getElem?_replicate] at q
    split at q <;> cases q
theorem fn_run {X : Cx} {N : List Str} {n : Nat} {code : SC} {body : List Stmt} {W : WX} {E : XK} {H : Hp} {vs : List V} {Q : VK} (hb : ∀ k : Ctx, Ss? ca k X W body code) (h : spF X.K ca n (mkFn n N.length code) vs H Q E) (hW : W = fun c d _ H => E c d H := by rfl) :
    ∃ t, PSs X body t ∧ t { nx := fun _ H' => Q .non H', rt := Q } (L2.start N vs) H := by
  subst hW
  obtain ⟨k, μ, m, ds, hm, r, hl, h⟩ := h
  unfold mkFn at h
  rw [if_pos (by rw [hl]; exact Nat.beq_refl _)] at h
  refine ⟨_, (hb (m.length :: k)).pss, startE N.length ds, μ, m, startE_ok r N, hm.enter, ?_⟩
  show PostS ⟨X.K, ca, m.length :: k⟩ _ _ μ H (code (m.length :: k) (startE N.length ds) m)
  revert h
  cases code (m.length :: k) (startE N.length ds) m with
  | nx ρ' m' => exact fun h σ' H' μ' e hm' _ => gc_ok h hm.len e hm.base hm' .non
  | rt d m' => exact fun h v H' μ' e hm' r' => gc_ok h hm.len e hm.base hm' r'
  | bad => exact fun h => h
  | exc x ρ' m' =>
    intro h cls d σ' H' μ' e hm' _ hx
    obtain ⟨xc, xf⟩ := x
    cases xf with
    | some p => exact h cls d H' μ' e hm'.up hx
    | none =>
      have e2 : Ext X.K μ H (μ'.take m.length) H' := ⟨fun i a q => by
        have hi : i < μ.length := by
          rcases Nat.lt_or_ge i μ.length with z | z
          · exact z
          · rw [List.getElem?_eq_none z] at q; cases q
        rw [List.getElem?_take_of_lt (hm.len ▸ hi)]
        exact e.pre i a q, e.tup⟩
      exact h cls d H' _ e2 (hm'.take hm.base) hx
end
end CB

set_option Elab.async false
set_option linter.all false
set_option maxRecDepth 100000
set_option maxHeartbeats 4000000
namespace CB
open PySem PySem.Spec PyProof.Rows L2 PySem.SeqAt

/-! ### equality of data -/
def lstOf (m : Mem) (i : Nat) : Option (List D) := match nth m i with
  | some (.lst ds) => some ds
  | some (.frz ds) => some ds
  | _ => none
def eqL (f : D → D → Option Bool) : List D → List D → Option Bool
  | [], [] => some true
  | x :: xs, y :: ys => match f x y, eqL f xs ys with
    | some b, some c => some (b && c)
    | _, _ => none
  | [], _ :: _ => some false
  | _ :: _, [] => some false
def notL (m : Mem) : D → Option Bool
  | .ref i => match lstOf m i with | some _ => some false | none => none
  | _ => some false
def eqD (m : Mem) : Nat → D → D → Option Bool
  | 0, _, _ => none
  | n + 1, a, b => match a with
    | .non => (match b with | .non => some true | _ => notL m b)
    | .bl x => (match b with | .bl y => some (x == y) | .int j => some ((if x then 1 else 0) == j) | _ => notL m b)
    | .int i => (match b with | .int j => some (i == j) | .bl y => some (i == (if y then 1 else 0)) | _ => notL m b)
    | .str s => (match b with | .str t => some (s == t) | _ => notL m b)
    | .tup xs => (match b with | .tup ys => eqL (eqD m n) xs ys | _ => notL m b)
    | .ref i => (match b with
      | .ref j => match lstOf m i, lstOf m j with
        | some xs, some ys => if Nat.beq xs.length ys.length then eqL (eqD m n) xs ys else some false
        | _, _ => none
      | _ => notL m a)

theorem eqL_refl {f : D → D → Option Bool} (hf : ∀ d r, f d d = some r → r = true) : ∀ (ds : List D) (r : Bool), eqL f ds ds = some r → r = true
  | [], r, h => by cases h; rfl
  | d :: ds, r, h => by
    unfold eqL at h
    split at h
    · rename_i b c hb hc
      cases h
      rw [hf d b hb, eqL_refl hf ds c hc]; rfl
    · cases h
theorem eqD_refl {m : Mem} : ∀ (n : Nat) (d : D) (r : Bool), eqD m n d d = some r → r = true
  | 0, _, _, h => nomatch h
  | n + 1, d, r, h => by
    unfold eqD at h
    cases d with
    | non => cases h; rfl
    | bl b => cases h; simp
    | int b => cases h; simp
    | str b => cases h; simp
    | tup ds => exact eqL_refl (fun d r => eqD_refl n d r) ds r h
    | ref i =>
      dsimp only at h
      split at h
      · rename_i xs ys h1 h2
        rw [h1] at h2; cases h2
        rw [if_pos (Nat.beq_refl _)] at h
        exact eqL_refl (fun d r => eqD_refl n d r) xs r h
      · cases h
section
variable {X : Cx} {ca : Nat → Addr} {k : Ctx} {pins : List (Addr × Obj)} {σ : L2.St} {H : Hp} {s : Shared} {μ : List Addr} {m : Mem}
theorem no_tup {a : Addr} {xs : List V} {c : Cell} (I : Inv X pins σ H s) (h : SqT X.K H a xs) (r : RepC X.K ca μ H a c) : False := by
  have noK : ∀ o, X.K.lookup a = some o → False := fun o e => by
    have e1 := I.ok.mod.kin a o e
    have e2 := (I.bs a o e1).2
    obtain ⟨u, e3⟩ := r.some
    rw [e2] at e3; cases e3
  rcases h with (h | ⟨u, h⟩) | ⟨o, its, n, e, _⟩
  · cases c with
    | lst ds => obtain ⟨vs, e, _⟩ := r; rw [h] at e; cases e
    | frz ds => obtain ⟨vs, o, e, _⟩ := r; rw [h] at e; cases e
    | dK ds => obtain ⟨vs, e, _⟩ := r; rw [h] at e; cases e
    | dT ds => obtain ⟨vs, e, _⟩ := r; rw [h] at e; cases e
    | ins _ ds => obtain ⟨dx, vs, e, _⟩ := r; rw [h] at e; cases e
    | exc _ _ => exact r
  · cases c with
    | lst ds => obtain ⟨vs, e, _⟩ := r; rw [h] at e; cases e
    | frz ds => obtain ⟨vs, o, e, _⟩ := r; rw [h] at e; cases e
    | dK ds => obtain ⟨vs, e, _⟩ := r; rw [h] at e; cases e
    | dT ds => obtain ⟨vs, e, _⟩ := r; rw [h] at e; cases e
    | ins _ ds => obtain ⟨dx, vs, e, _⟩ := r; rw [h] at e; cases e
    | exc _ _ => exact r
  · exact noK _ e
theorem RepM.at (hM : RepM ⟨X.K, ca, k⟩ μ H m) {i : Nat} {a : Addr} (h : μ[i]? = some a) : ∃ c, m[i]? = some c ∧ RepC X.K ca μ H a c := by
  have hi : i < μ.length := by
    rcases Nat.lt_or_ge i μ.length with q | q
    · exact q
    · rw [List.getElem?_eq_none q] at h; cases h
  have hc : m[i]? = some (m[i]'(hM.len ▸ hi)) := List.getElem?_eq_getElem _
  exact ⟨_, hc, hM.cell i a _ h hc⟩
theorem RepM.idx (hM : RepM ⟨X.K, ca, k⟩ μ H m) {i j : Nat} {a : Addr} (h : μ[i]? = some a) (h' : μ[j]? = some a) : i = j := by
  have hi : i < μ.length := by
    rcases Nat.lt_or_ge i μ.length with q | q
    · exact q
    · rw [List.getElem?_eq_none q] at h; cases h
  exact (List.getElem?_inj hi hM.nd).mp (h.trans h'.symm)
mutual
theorem RepV.inj (I : Inv X pins σ H s) (hM : RepM ⟨X.K, ca, k⟩ μ H m) : ∀ {d e : D} {v : V}, RepV X.K μ H d v → RepV X.K μ H e v → d = e
  | _, _, _, .non, .non => rfl
  | _, _, _, .bl, .bl => rfl
  | _, _, _, .int, .int => rfl
  | _, _, _, .str, h => by
    generalize hv : V.str _ = v at h
    cases h with
    | str => injection hv with hv; injection hv with hv; congr 1; simpa using congrArg Array.toList hv
    | _ => cases hv
  | _, _, _, .tup h1 h2, .tup h3 h4 => by
    have e := I.tuple_inj h1 h3
    subst e
    rw [RepVs.inj I hM h2 h4]
  | _, _, _, @RepV.ref _ _ _ i a h, @RepV.ref _ _ _ j _ h' => by rw [hM.idx h h']
  | _, _, _, @RepV.tup _ _ _ ds a vs h1 h2, @RepV.ref _ _ _ j _ h' => by
    obtain ⟨c, _, r⟩ := hM.at h'
    exact (no_tup I h1 r).elim
  | _, _, _, .ref h', .tup h1 h2 => by
    obtain ⟨c, _, r⟩ := hM.at h'
    exact (no_tup I h1 r).elim
theorem RepVs.inj (I : Inv X pins σ H s) (hM : RepM ⟨X.K, ca, k⟩ μ H m) : ∀ {d e : List D} {v : List V}, RepVs X.K μ H d v → RepVs X.K μ H e v → d = e
  | _, _, _, .nil, .nil => rfl
  | _, _, _, .cons a b, .cons c d => by rw [RepV.inj I hM a c, RepVs.inj I hM b d]
end
/-- a list's cell -/
theorem lst_a (hM : RepM ⟨X.K, ca, k⟩ μ H m) {i : Nat} {a : Addr} {ds : List D} (h : μ[i]? = some a) (e : lstOf m i = some ds) : ∃ vs, SqL X.K H a vs ∧ RepVs X.K μ H ds vs := by
  unfold lstOf at e
  rw [nth_eq] at e
  obtain ⟨c, hc, r⟩ := hM.at h
  rw [hc] at e
  cases c with
  | lst es => cases e; obtain ⟨vs, h1, h2⟩ := r; exact ⟨vs, .of h1, h2⟩
  | frz es => cases e; obtain ⟨vs, o, h1, h2⟩ := r; exact ⟨vs, .inl (.inr ⟨o, h1⟩), h2⟩
  | _ => cases e
theorem lst_at (I : Inv X pins σ H s) (hM : RepM ⟨X.K, ca, k⟩ μ H m) {i : Nat} {a : Addr} {ds : List D} (h : μ[i]? = some a) (e : lstOf m i = some ds) : ∃ vs, SqL X.K H a vs ∧ RepVs X.K μ H ds vs := lst_a hM h e
structure Eqs (A : Around) (s : Shared) (v u : Value) (r : Bool) : Prop where
  eq : EqAt A s v u r
  rc : RcAt A s v u r
  ne : RcNeAt A s v u (!r)
theorem eqL_len {f : D → D → Option Bool} : ∀ {xs ys : List D} {r : Bool}, eqL f xs ys = some r → ∃ e : Nat → Bool, (∀ (j : Nat) (x y : D), xs[j]? = some x → ys[j]? = some y → f x y = some (e j)) ∧ r = ((List.range (min xs.length ys.length)).all e && xs.length == ys.length)
  | [], [], r, h => by cases h; exact ⟨fun _ => true, fun j x y h => by simp at h, by simp⟩
  | [], _ :: _, r, h => by cases h; exact ⟨fun _ => true, fun j x y h => by simp at h, by simp⟩
  | _ :: _, [], r, h => by cases h; exact ⟨fun _ => true, fun j x y _ h => by simp at h, by simp⟩
  | x :: xs, y :: ys, r, h => by
    unfold eqL at h
    split at h
    · rename_i b c hb hc
      cases h
      obtain ⟨e, h1, h2⟩ := eqL_len hc
      refine ⟨fun j => match j with | 0 => b | j + 1 => e j, fun j => ?_, ?_⟩
      · cases j with
        | zero => intro x' y' h3 h4; simp at h3 h4; subst h3 h4; exact hb
        | succ j => intro x' y' h3 h4; exact h1 j x' y' (by simpa using h3) (by simpa using h4)
      · subst h2
        have e1 : min (x :: xs).length (y :: ys).length = min xs.length ys.length + 1 := by simp only [List.length_cons]; omega
        rw [e1, List.range_succ_eq_map, List.all_cons, List.all_map]
        have e2 : ((x :: xs).length == (y :: ys).length) = (xs.length == ys.length) := by simp
        rw [e2, Bool.and_assoc]
        rfl
    · cases h
theorem items_at {A : Around} {f : D → D → Option Bool} {xs ys : List D} {vs us : List V} {its its2 : List Value} {e : Nat → Bool}
    (hf : ∀ (a b : D) (r : Bool), f a b = some r → ∀ (x y : V) (v u : Value), RepV X.K μ H a x → RepV X.K μ H b y → RelV x v → RelV y u → EqAt A s v u r)
    (r1 : RepVs X.K μ H xs vs) (r2 : RepVs X.K μ H ys us) (v1 : Vals vs its) (v2 : Vals us its2) (he : ∀ (j : Nat) (x y : D), xs[j]? = some x → ys[j]? = some y → f x y = some (e j)) :
    ∀ j (h1 : j < its.toArray.size) (h2 : j < its2.toArray.size), EqAt A s its.toArray[j] its2.toArray[j] (e j) := by
  intro j h1 h2
  have l1 : j < xs.length := by rw [r1.len, v1.length]; simpa using h1
  have l2 : j < ys.length := by rw [r2.len, v2.length]; simpa using h2
  have g1 := List.getElem?_eq_getElem l1
  have g2 := List.getElem?_eq_getElem l2
  obtain ⟨x, hx, rx⟩ := r1.get g1
  obtain ⟨y, hy, ry⟩ := r2.get g2
  obtain ⟨v, hv, rv⟩ := v1.get hx
  obtain ⟨u, hu, ru⟩ := v2.get hy
  have e1 : its.toArray[j] = v := by
    rw [List.getElem?_eq_getElem (by simpa using h1)] at hv
    simpa using hv
  have e2 : its2.toArray[j] = u := by
    rw [List.getElem?_eq_getElem (by simpa using h2)] at hu
    simpa using hu
  rw [e1, e2]
  exact hf _ _ _ (he j _ _ g1 g2) _ _ _ _ rx ry rv ru
theorem eqs_at (I : Inv X pins σ H s) (hM : RepM ⟨X.K, ca, k⟩ μ H m) : ∀ (n : Nat) (a b : D) (r : Bool), eqD m n a b = some r → ∀ (x y : V) (v u : Value) (A : Around), RepV X.K μ H a x → RepV X.K μ H b y → RelV x v → RelV y u → A.units + n < cLine → Eqs A s v u r
  | 0, _, _, _, h, _, _, _, _, _, _, _, _, _, _ => nomatch h
  | n + 1, a, b, r, h, x, y, v, u, A, rx, ry, rv, ru, hu => by
    have hu0 : A.units < cLine := by omega
    have ih : ∀ (a b : D) (r : Bool), eqD m n a b = some r → ∀ (x y : V) (v u : Value), RepV X.K μ H a x → RepV X.K μ H b y → RelV x v → RelV y u → EqAt A.in1 s v u r := fun a b r h x y v u rx ry rv ru =>
      (eqs_at I hM n a b r h x y v u A.in1 rx ry rv ru (by rw [units_in1]; omega)).eq
    have isL : ∀ {i : Nat} {a : Addr} {ds : List D}, μ[i]? = some a → lstOf m i = some ds → ∃ its : List Value, s.heap.IsList a its.toArray := fun h e => by
      obtain ⟨vs, h1, _⟩ := lst_at I hM h e
      obtain ⟨its, _, p, _⟩ := I.list h1
      exact ⟨its, p.isList⟩
    have isT : ∀ {a : Addr} {vs : List V}, SqT X.K H a vs → ∃ its : List Value, s.heap.IsTuple a its.toArray := fun h => by
      obtain ⟨its, _, p, _⟩ := I.tuple h
      exact ⟨its, p⟩
    cases rx with
    | non =>
      obtain rfl : v = Value.none := rv
      cases ry with
      | non => obtain rfl : u = Value.none := ru; cases h; exact ⟨.same _, .none_none, .none_none⟩
      | bl => obtain rfl := ru; cases h; exact ⟨.none_bool _, .none_bool _, .none_bool _⟩
      | int => obtain ⟨t, rfl⟩ := ru; cases h; exact ⟨.none_int _ _, .none_int _ _, .none_int _ _⟩
      | str => obtain ⟨t, rfl⟩ := ru; cases h; exact ⟨.none_str _ _, .none_str _ _, .none_str _ _⟩
      | tup h1 h2 => obtain rfl := ru; cases h; obtain ⟨its, p⟩ := isT h1; exact ⟨.none_tuple p hu0, .none_tuple p hu0, .none_tuple p hu0⟩
      | ref h1 =>
        obtain rfl := ru
        unfold eqD notL at h
        dsimp only at h
        split at h
        · rename_i hl; cases h; obtain ⟨its, p⟩ := isL h1 hl; exact ⟨.none_list p hu0, .none_list p hu0, .none_list p hu0⟩
        · cases h
    | bl =>
      obtain rfl := rv
      cases ry with
      | non => obtain rfl : u = Value.none := ru; cases h; exact ⟨.bool_none _, .bool_none _, .bool_none _⟩
      | bl => obtain rfl := ru; cases h; exact ⟨.bool_bool _ _, .bool_bool _ _, .bool_bool _ _⟩
      | int => obtain ⟨t, rfl⟩ := ru; cases h; exact ⟨.bool_int _ _ _, .bool_int _ _ _, .bool_int _ _ _⟩
      | str => obtain ⟨t, rfl⟩ := ru; cases h; exact ⟨.bool_str _ _ _, .bool_str _ _ _, .bool_str _ _ _⟩
      | tup h1 h2 => obtain rfl := ru; cases h; obtain ⟨its, p⟩ := isT h1; exact ⟨.bool_tuple _ p hu0, .bool_tuple _ p hu0, .bool_tuple _ p hu0⟩
      | ref h1 =>
        obtain rfl := ru
        unfold eqD notL at h
        dsimp only at h
        split at h
        · rename_i hl; cases h; obtain ⟨its, p⟩ := isL h1 hl; exact ⟨.bool_list _ p hu0, .bool_list _ p hu0, .bool_list _ p hu0⟩
        · cases h
    | int =>
      obtain ⟨t0, rfl⟩ := rv
      cases ry with
      | non => obtain rfl : u = Value.none := ru; cases h; exact ⟨.int_none _ _, .int_none _ _, .int_none _ _⟩
      | bl => obtain rfl := ru; cases h; exact ⟨.int_bool _ _ _, .int_bool _ _ _, .int_bool _ _ _⟩
      | int => obtain ⟨t, rfl⟩ := ru; cases h; exact ⟨.int_int _ _ _ _, .int_int _ _ _ _, .int_int _ _ _ _⟩
      | str => obtain ⟨t, rfl⟩ := ru; cases h; exact ⟨.int_str _ _ _ _, .int_str _ _ _ _, .int_str _ _ _ _⟩
      | tup h1 h2 => obtain rfl := ru; cases h; obtain ⟨its, p⟩ := isT h1; exact ⟨.int_tuple _ _ p hu0, .int_tuple _ _ p hu0, .int_tuple _ _ p hu0⟩
      | ref h1 =>
        obtain rfl := ru
        unfold eqD notL at h
        dsimp only at h
        split at h
        · rename_i hl; cases h; obtain ⟨its, p⟩ := isL h1 hl; exact ⟨.int_list _ _ p hu0, .int_list _ _ p hu0, .int_list _ _ p hu0⟩
        · cases h
    | @str s1 =>
      obtain ⟨t0, rfl⟩ := rv
      cases ry with
      | non => obtain rfl : u = Value.none := ru; cases h; exact ⟨.str_none _ _, .str_none _ _, .str_none _ _⟩
      | bl => obtain rfl := ru; cases h; exact ⟨.str_bool _ _ _, .str_bool _ _ _, .str_bool _ _ _⟩
      | int => obtain ⟨t, rfl⟩ := ru; cases h; exact ⟨.str_int _ _ _ _, .str_int _ _ _ _, .str_int _ _ _ _⟩
      | @str s2 =>
        obtain ⟨t, rfl⟩ := ru
        cases h
        have e : (s1 == s2) = ((⟨s1.toArray⟩ : Str) == ⟨s2.toArray⟩) := by
          by_cases z : s1 = s2
          · subst z; simp
          · rw [beq_eq_false_iff_ne.mpr z]
            refine (beq_eq_false_iff_ne.mpr fun q => z ?_).symm
            injection q with q
            simpa using congrArg Array.toList q
        rw [e]
        exact ⟨.str_str _ _ _ _, .str_str _ _ _ _, .str_str _ _ _ _⟩
      | tup h1 h2 => obtain rfl := ru; cases h; obtain ⟨its, p⟩ := isT h1; exact ⟨.str_tuple _ _ p hu0, .str_tuple _ _ p hu0, .str_tuple _ _ p hu0⟩
      | ref h1 =>
        obtain rfl := ru
        unfold eqD notL at h
        dsimp only at h
        split at h
        · rename_i hl; cases h; obtain ⟨its, p⟩ := isL h1 hl; exact ⟨.str_list _ _ p hu0, .str_list _ _ p hu0, .str_list _ _ p hu0⟩
        · cases h
    | @tup xs a1 vs1 g1 g2 =>
      obtain rfl := rv
      cases ry with
      | non => obtain rfl : u = Value.none := ru; cases h; obtain ⟨its, p⟩ := isT g1; exact ⟨.tuple_none p hu0, .tuple_none p hu0, .tuple_none p hu0⟩
      | bl => obtain rfl := ru; cases h; obtain ⟨its, p⟩ := isT g1; exact ⟨.tuple_bool _ p hu0, .tuple_bool _ p hu0, .tuple_bool _ p hu0⟩
      | int => obtain ⟨t, rfl⟩ := ru; cases h; obtain ⟨its, p⟩ := isT g1; exact ⟨.tuple_int _ _ p hu0, .tuple_int _ _ p hu0, .tuple_int _ _ p hu0⟩
      | str => obtain ⟨t, rfl⟩ := ru; cases h; obtain ⟨its, p⟩ := isT g1; exact ⟨.tuple_str _ _ p hu0, .tuple_str _ _ p hu0, .tuple_str _ _ p hu0⟩
      | @tup ys a2 vs2 h1 h2 =>
        obtain rfl := ru
        obtain ⟨its1, v1, p1, _⟩ := I.tuple g1
        obtain ⟨its2, v2, p2, _⟩ := I.tuple h1
        obtain ⟨e, he, hr⟩ := eqL_len (show eqL (eqD m n) xs ys = some r from h)
        have hi := items_at (A := A.in1) ih g2 h2 v1 v2 he
        have hsz : r = ((List.range (min its1.toArray.size its2.toArray.size)).all e && its1.toArray.size == its2.toArray.size) := by
          rw [hr, g2.len, h2.len, v1.length, v2.length]; simp
        have q1 : RcAt A s (.ref a1) (.ref a2) r := by rw [hsz]; exact .tuples p1 p2 hu0 hi
        have q2 : RcNeAt A s (.ref a1) (.ref a2) (!r) := by rw [hsz]; exact .tuples p1 p2 hu0 hi
        refine ⟨?_, q1, q2⟩
        by_cases ea : a1 = a2
        · subst ea
          have e2 := I.tuple_inj g1 h1
          subst e2
          have e3 := RepVs.inj I hM g2 h2
          subst e3
          rw [eqL_refl (fun d r => eqD_refl n d r) xs r h]
          exact .same _
        · exact .of_refs ea q1
      | ref h1 =>
        obtain rfl := ru
        unfold eqD notL at h
        dsimp only at h
        split at h
        · rename_i hl
          cases h; obtain ⟨its, p⟩ := isL h1 hl; obtain ⟨its2, p2⟩ := isT g1
          exact ⟨.tuple_list p2 p hu0, .tuple_list p2 p hu0, .tuple_list p2 p hu0⟩
        · cases h
    | @ref i a1 g1 =>
      obtain rfl := rv
      cases ry with
      | non =>
        obtain rfl : u = Value.none := ru
        unfold eqD notL at h
        dsimp only at h
        split at h
        · rename_i hl; cases h; obtain ⟨its, p⟩ := isL g1 hl; exact ⟨.list_none p hu0, .list_none p hu0, .list_none p hu0⟩
        · cases h
      | bl =>
        obtain rfl := ru
        unfold eqD notL at h
        dsimp only at h
        split at h
        · rename_i hl; cases h; obtain ⟨its, p⟩ := isL g1 hl; exact ⟨.list_bool _ p hu0, .list_bool _ p hu0, .list_bool _ p hu0⟩
        · cases h
      | int =>
        obtain ⟨t, rfl⟩ := ru
        unfold eqD notL at h
        dsimp only at h
        split at h
        · rename_i hl; cases h; obtain ⟨its, p⟩ := isL g1 hl; exact ⟨.list_int _ _ p hu0, .list_int _ _ p hu0, .list_int _ _ p hu0⟩
        · cases h
      | str =>
        obtain ⟨t, rfl⟩ := ru
        unfold eqD notL at h
        dsimp only at h
        split at h
        · rename_i hl; cases h; obtain ⟨its, p⟩ := isL g1 hl; exact ⟨.list_str _ _ p hu0, .list_str _ _ p hu0, .list_str _ _ p hu0⟩
        · cases h
      | tup h1 h2 =>
        obtain rfl := ru
        unfold eqD notL at h
        dsimp only at h
        split at h
        · rename_i hl
          cases h; obtain ⟨its, p⟩ := isL g1 hl; obtain ⟨its2, p2⟩ := isT h1
          exact ⟨.list_tuple p p2 hu0, .list_tuple p p2 hu0, .list_tuple p p2 hu0⟩
        · cases h
      | @ref j a2 h1 =>
        obtain rfl := ru
        unfold eqD at h
        dsimp only at h
        split at h
        · rename_i xs ys hx hy
          obtain ⟨vs1, b1, r1⟩ := lst_at I hM g1 hx
          obtain ⟨vs2, b2, r2⟩ := lst_at I hM h1 hy
          obtain ⟨its1, v1, p1, _⟩ := I.list b1
          obtain ⟨its2, v2, p2, _⟩ := I.list b2
          have z1 : its1.toArray.size = xs.length := by rw [r1.len, v1.length]; simp
          have z2 : its2.toArray.size = ys.length := by rw [r2.len, v2.length]; simp
          split at h
          · rename_i hl
            have hl' : xs.length = ys.length := Nat.eq_of_beq_eq_true hl
            obtain ⟨e, he, hr⟩ := eqL_len h
            have hi := items_at (A := A.in1) ih r1 r2 v1 v2 he
            have hsz : r = (List.range its1.toArray.size).all e := by
              rw [hr, z1, hl', Nat.min_self]; simp
            have q1 : RcAt A s (.ref a1) (.ref a2) r := by rw [hsz]; exact .lists p1.isList p2.isList (by omega) hu0 hi
            have q2 : RcNeAt A s (.ref a1) (.ref a2) (!r) := by rw [hsz]; exact .lists p1.isList p2.isList (by omega) hu0 hi
            refine ⟨?_, q1, q2⟩
            by_cases ea : a1 = a2
            · subst ea
              have ij := hM.idx g1 h1
              subst ij
              rw [hx] at hy; cases hy
              rw [eqL_refl (fun d r => eqD_refl n d r) xs r h]
              exact .same _
            · exact .of_refs ea q1
          · rename_i hl
            cases h
            have hl' : xs.length ≠ ys.length := fun z => hl (by rw [z]; exact Nat.beq_refl _)
            have hs : (its1.toArray.size != its2.toArray.size) = true := by rw [z1, z2]; simpa using hl'
            have q1 : RcAt A s (.ref a1) (.ref a2) false := .lists_lengths p1.isList p2.isList hs hu0
            have hne : a1 ≠ a2 := fun z => by
              subst z
              have ij := hM.idx g1 h1
              subst ij
              rw [hx] at hy; cases hy
              exact hl' rfl
            exact ⟨.of_refs hne q1, q1, .lists_lengths p1.isList p2.isList hs hu0⟩
        · cases h
end
end CB

set_option Elab.async false
set_option linter.all false
set_option maxRecDepth 100000
set_option maxHeartbeats 4000000
namespace CB
open PySem PySem.Spec PyProof.Rows L2 PySem.SeqAt

/-! ### operations on data -/
def small (n : Nat) (i : Int) : Bool := Nat.blt i.natAbs (2 ^ n)
def dAdd (a b : D) (m : Mem) : O D := match a with
  | .int i => (match b with | .int j => some (.int (i + j), m) | _ => none)
  | .str s => (match b with | .str t => if Nat.ble (s.length + t.length) lim then some (.str (s ++ t), m) else none | _ => none)
  | .tup xs => (match b with | .tup ys => if Nat.ble (xs.length + ys.length) lim then some (.tup (xs ++ ys), m) else none | _ => none)
  | .ref i => (match b with
    | .ref j => (match nth m i with
      | some (.lst xs) => (match nth m j with | some (.lst ys) => newL (xs ++ ys) m | _ => none)
      | _ => none)
    | _ => none)
  | _ => none
def dSub (a b : D) (m : Mem) : O D := match a with
  | .int i => (match b with | .int j => some (.int (i - j), m) | _ => none)
  | _ => none
def dMul (a b : D) (m : Mem) : O D := match a with
  | .int i => (match b with | .int j => if small 400000 i && small 400000 j then some (.int (i * j), m) else none | _ => none)
  | .tup xs => (match b with | .int j => if Nat.ble xs.length 1000 && (!xs.isEmpty) && decide (2 ≤ j) && decide (j ≤ 1000) then some (.tup (List.replicate j.toNat xs).flatten, m) else none | _ => none)
  | _ => none
def dDiv (a b : D) (m : Mem) : O D := match a with
  | .int i => (match b with | .int j => if decide (0 < j) && small 8000 j then some (.int (i / j), m) else none | _ => none)
  | _ => none
def dMod (a b : D) (m : Mem) : O D := match a with
  | .int i => (match b with | .int j => if decide (0 < j) then some (.int (i % j), m) else none | _ => none)
  | _ => none
def dPow (a b : D) (m : Mem) : O D := match a with
  | .int i => (match b with | .int j => if decide (0 ≤ j) && decide (j ≤ 1000) && small 60 i then some (.int (i ^ j.toNat), m) else none | _ => none)
  | _ => none
def dNeg (a : D) (m : Mem) : O D := match a with
  | .int i => some (.int (-i), m)
  | _ => none
def dEq (a b : D) (m : Mem) : O D := match eqD m 60 a b with
  | some r => some (.bl r, m)
  | none => none
def dNe (a b : D) (m : Mem) : O D := match eqD m 60 a b with
  | some r => some (.bl (!r), m)
  | none => none
def intOp (f : Int → Int → Bool) (a b : D) (m : Mem) : O D := match a with
  | .int i => (match b with | .int j => some (.bl (f i j), m) | _ => none)
  | _ => none
abbrev dLtI : D → D → Mem → O D := intOp fun i j => decide (i < j)
abbrev dLeI : D → D → Mem → O D := intOp fun i j => decide (i ≤ j)
abbrev dGtI : D → D → Mem → O D := intOp fun i j => decide (j < i)
abbrev dGeI : D → D → Mem → O D := intOp fun i j => decide (j ≤ i)
def isN : D → Bool
  | .non => true
  | _ => false
def dIs (a b : D) (m : Mem) : O D := match b with
  | .non => some (.bl (isN a), m)
  | .bl y => (match a with | .bl x => some (.bl (x == y), m) | _ => none)
  | _ => none
def dIsNot (a b : D) (m : Mem) : O D := match b with
  | .non => some (.bl (!isN a), m)
  | .bl y => (match a with | .bl x => some (.bl (!(x == y)), m) | _ => none)
  | _ => none
def dLen (as : List D) (m : Mem) : O D := match as with
  | [.tup ds] => some (.int (ds.length : Nat), m)
  | [.str s] => if Nat.ble s.length lim then some (.int (s.length : Nat), m) else none
  | [.ref i] => match lstOf m i with
    | some ds => some (.int (ds.length : Nat), m)
    | none => none
  | _ => none
def ixD (n : Nat) (i : Int) : Option Nat := if decide (0 ≤ i) then (if decide (i < n) then some i.toNat else none) else if decide (-(n : Int) ≤ i) then some (i + n).toNat else none
def atD {α : Type} (xs : List α) (i : Int) : Option α := match ixD xs.length i with | some j => nth xs j | none => none
def dIx (a b : D) (m : Mem) : O D := match b with
  | .int i => (match a with
    | .tup ds => (match atD ds i with | some d => some (d, m) | none => none)
    | .str s => if Nat.ble s.length lim then (match atD s i with | some c => some (.str [c], m) | none => none) else none
    | .ref j => (match lstOf m j with
      | some ds => (match atD ds i with | some d => some (d, m) | none => none)
      | none => none)
    | _ => none)
  | _ => none
def anyD (f : D → Option Bool) : List D → Option Bool
  | [] => some false
  | d :: ds => match f d, anyD f ds with
    | some b, some c => some (b || c)
    | _, _ => none
def dIn (a b : D) (m : Mem) : O D := match b with
  | .tup ds => (match anyD (fun d => eqD m 60 d a) ds with | some r => some (.bl r, m) | none => none)
  | .ref i => (match lstOf m i with
    | some ds => (match anyD (fun d => eqD m 60 d a) ds with | some r => some (.bl r, m) | none => none)
    | none => none)
  | _ => none
def dNotIn (a b : D) (m : Mem) : O D := match dIn a b m with
  | some (.bl r, m) => some (.bl (!r), m)
  | _ => none
/-- kinds -/
def tyNm (m : Mem) : D → Option String
  | .non => some "NoneType"
  | .bl _ => some "bool"
  | .int _ => some "int"
  | .str _ => some "str"
  | .tup _ => some "tuple"
  | .ref i => match lstOf m i with | some _ => some "list" | none => none
def kits (T : String) : D → Bool
  | .non => false
  | .bl _ => T == "bool" || T == "int"
  | .int _ => T == "int"
  | .str _ => T == "str"
  | .tup _ => T == "tuple"
  | .ref _ => T == "list"
inductive Kd where
  | int | bool | str | tuple | list
def Kd.nm : Kd → String
  | .int => "int" | .bool => "bool" | .str => "str" | .tuple => "tuple" | .list => "list"
def Kd.has : Kd → D → Bool
  | .int, .int _ => true
  | .int, .bl _ => true
  | .bool, .bl _ => true
  | .str, .str _ => true
  | .tuple, .tup _ => true
  | .list, .ref _ => true
  | _, _ => false
def isiD (T : Kd) (m : Mem) : D → Option Bool
  | .ref i => match lstOf m i with | some _ => some (T.has (.ref i)) | none => none
  | d => some (T.has d)
def eIsi (T : Kd) (c : EC) : EC := fun k ρ m => (c k ρ m).bind fun d m => match isiD T m d with | some b => .ok (.bl b) m | none => .bad
/-- stores -/
def stOk (k : Ctx) (i : Nat) (v : D) : Bool := k.all fun b => Nat.ble b i || v.lo b
def isLst : D → Mem → Bool
  | .ref i, m => match nth m i with | some (.lst _) => true | _ => false
  | _, _ => false
def dAppend (k : Ctx) (a : D) (as : List D) (m : Mem) : O D := match a, as with
  | .ref i, [v] => match nth m i with
    | some (.lst ds) => if Nat.ble ds.length lim && stOk k i v then some (.non, Mem.put m i (.lst (ds ++ [v]))) else none
    | _ => none
  | _, _ => none
def dPop (k : Ctx) (a : D) (as : List D) (m : Mem) : O D := match a, as with
  | .ref i, [.int j] => match nth m i with
    | some (.lst ds) => match ixD ds.length j with
      | some n => match nth ds n with
        | some d => if decide (j.natAbs < 2 ^ 60) then some (d, Mem.put m i (.lst (ds.eraseIdx n))) else none
        | none => none
      | none => none
    | _ => none
  | _, _ => none
def dSet (k : Ctx) (a b v : D) (m : Mem) : Option Mem := match a, b with
  | .ref i, .int j => match nth m i with
    | some (.lst ds) => match ixD ds.length j with
      | some n => if stOk k i v then some (Mem.put m i (.lst (ds.set n v))) else none
      | none => none
    | _ => none
  | _, _ => none

theorem small_lt {n : Nat} {i : Int} (h : small n i = true) : i.natAbs < 2 ^ n := Nat.blt_eq.mp h
theorem ixD_eq (n : Nat) (i : Int) : ixD n i = ixN n i := by
  unfold ixD ixN
  by_cases h1 : 0 ≤ i
  · rw [if_pos h1, if_pos (by simpa using h1)]
    by_cases h2 : i < (n : Int)
    · rw [if_pos h2, if_pos (by simpa using h2)]
    · rw [if_neg h2, if_neg (by simpa using h2)]
  · rw [if_neg h1, if_neg (by simpa using h1)]
    by_cases h2 : -(n : Int) ≤ i
    · rw [if_pos h2, if_pos (by simpa using h2)]
    · rw [if_neg h2, if_neg (by simpa using h2)]
theorem atD_eq {α : Type} (xs : List α) (i : Int) : atD xs i = atI xs i := by
  unfold atD atI
  rw [ixD_eq]
  cases ixN xs.length i with
  | none => rfl
  | some j => simp [nth_eq]

section
variable {ca : Nat → Addr} {k : Ctx} {X : Cx} {pins : List (Addr × Obj)} {σ : L2.St} {H : Hp} {s : Shared} {μ : List Addr} {m : Mem}
theorem rep_at {ds : List D} {vs : List V} {i : Int} {d : D} (r : RepVs X.K μ H ds vs) (h : atD ds i = some d) : ∃ v, atI vs i = some v ∧ RepV X.K μ H d v := by
  rw [atD_eq] at h
  unfold atI at h ⊢
  rw [← r.len]
  cases e : ixN ds.length i with
  | none => rw [e] at h; cases h
  | some j => rw [e] at h; exact r.get h
/-- the lists' own objects: tracked -/
theorem lst_h (hM : RepM ⟨X.K, ca, k⟩ μ H m) {i : Nat} {a : Addr} {ds : List D} (h : μ[i]? = some a) (e : nth m i = some (.lst ds)) : ∃ vs, H a = some (.lst vs) ∧ RepVs X.K μ H ds vs := by
  rw [nth_eq] at e
  exact hM.cell i a _ h e
theorem new_tup {G : Par} {ds : List D} {vs : List V} {p : Addr} {Q : VK} (h : PO G μ H (rD G) Q (some (.tup ds, m))) (hM : RepM G μ H m) (r : RepVs G.K μ H ds vs) (hp : H p = none) : Q (.ref p) (upd H p (.tup vs)) :=
  h _ _ _ (Ext.new hp) (hM.laid hp) (.tup (.of upd_same) (r.mono (Ext.new hp)))
theorem dAdd_ok : OpR X (binaryOp .Add) (rOpD ⟨X.K, ca, k⟩ dAdd) := by
  intro pins s σ H x y v u Q I rx ry ⟨μ, m, a, b, hM, ra, rb, h⟩
  unfold dAdd at h
  cases ra with
  | int => cases rb with
    | int => exact op_add pins s σ H _ _ v u Q I rx ry ⟨_, _, rfl, rfl, PO.pure h hM .int⟩
    | _ => exact h.elim
  | str => cases rb with
    | str =>
      dsimp only at h
      split at h
      · rename_i hl
        refine op_add_str pins s σ H _ _ v u Q I rx ry ⟨_, _, rfl, rfl, ?_, ?_⟩
        · have := lim_line hl
          simpa [Str.length] using this
        · refine PO.pure h hM ?_
          have e : ∀ (a b : List Nat), (⟨a.toArray⟩ : Str) ++ ⟨b.toArray⟩ = ⟨(a ++ b).toArray⟩ := fun a b => by
            show Str.mk (a.toArray ++ b.toArray) = _
            simp
          show RepV X.K μ H _ (.str (_ ++ _))
          rw [e]
          exact .str
      · exact h.elim
    | _ => exact h.elim
  | tup h1 h2 => cases rb with
    | tup h3 h4 =>
      dsimp only at h
      split at h
      · rename_i hl
        refine op_catA pins s σ H _ _ v u Q I rx ry ⟨_, _, _, _, rfl, rfl, h1, h3, by rw [← h2.len, ← h4.len]; exact lim_line hl, fun e => ?_, fun e e2 => ?_, fun e e2 p hp => ?_⟩
        · subst e; cases h2; exact PO.pure h hM (.tup h3 h4)
        · subst e2; cases h4; rw [List.append_nil] at h; exact PO.pure h hM (.tup h1 h2)
        · exact new_tup h hM (h2.append h4) hp
      · exact h.elim
    | _ => exact h.elim
  | ref h1 => cases rb with
    | ref h2 =>
      dsimp only at h
      split at h
      · rename_i xs hx
        split at h
        · rename_i ys hy
          obtain ⟨vs, e1, r1⟩ := lst_h hM h1 hx
          obtain ⟨us, e2, r2⟩ := lst_h hM h2 hy
          obtain ⟨z, q⟩ := newL_ok h hM (r1.append r2)
          exact op_cat pins s σ H _ _ v u Q I rx ry ⟨_, _, _, _, rfl, rfl, e1, e2, by simpa using z, q⟩
        · exact h.elim
      · exact h.elim
    | _ => exact h.elim
  | _ => exact h.elim
theorem dSub_ok : OpR X (binaryOp .Sub) (rOpD ⟨X.K, ca, k⟩ dSub) := by
  intro pins s σ H x y v u Q I rx ry ⟨μ, m, a, b, hM, ra, rb, h⟩
  unfold dSub at h
  cases ra with
  | int => cases rb with
    | int => exact op_sub pins s σ H _ _ v u Q I rx ry ⟨_, _, rfl, rfl, PO.pure h hM .int⟩
    | _ => exact h.elim
  | _ => exact h.elim
theorem RepVs.replicate {ds : List D} {vs : List V} (r : RepVs X.K μ H ds vs) : ∀ n : Nat, RepVs X.K μ H (List.replicate n ds).flatten (List.replicate n vs).flatten
  | 0 => .nil
  | n + 1 => by
    rw [List.replicate_succ, List.replicate_succ, List.flatten_cons, List.flatten_cons]
    exact r.append (r.replicate n)
theorem dMul_ok : OpR X (binaryOp .Mult) (rOpD ⟨X.K, ca, k⟩ dMul) := by
  intro pins s σ H x y v u Q I rx ry ⟨μ, m, a, b, hM, ra, rb, h⟩
  unfold dMul at h
  cases ra with
  | int => cases rb with
    | int =>
      dsimp only at h
      split at h
      · rename_i hl
        rw [Bool.and_eq_true] at hl
        exact op_mulW pins s σ H _ _ v u Q I rx ry ⟨_, _, rfl, rfl, wide_mul (small_lt hl.1) (small_lt hl.2) (by decide) (by decide) (by decide), PO.pure h hM .int⟩
      · exact h.elim
    | _ => exact h.elim
  | tup h1 h2 => cases rb with
    | int =>
      dsimp only at h
      split at h
      · rename_i hl
        simp only [Bool.and_eq_true, decide_eq_true_eq, Bool.not_eq_true', List.isEmpty_eq_false_iff] at hl
        obtain ⟨⟨⟨g1, g2⟩, g3⟩, g4⟩ := hl
        refine op_repT pins s σ H _ _ v u Q I rx ry ⟨_, _, _, rfl, rfl, h1, fun z => ?_, g3, g4, by rw [← h2.len]; exact Nat.le_of_ble_eq_true g1, fun p hp => ?_⟩
        · subst z; cases h2; exact g2 rfl
        · exact new_tup h hM (h2.replicate _) hp
      · exact h.elim
    | _ => exact h.elim
  | _ => exact h.elim
theorem dDiv_ok : OpR X (binaryOp .FloorDiv) (rOpD ⟨X.K, ca, k⟩ dDiv) := by
  intro pins s σ H x y v u Q I rx ry ⟨μ, m, a, b, hM, ra, rb, h⟩
  unfold dDiv at h
  cases ra with
  | int => cases rb with
    | int =>
      dsimp only at h
      split at h
      · rename_i hl
        rw [Bool.and_eq_true, decide_eq_true_eq] at hl
        exact op_fdivW pins s σ H _ _ v u Q I rx ry ⟨_, _, rfl, rfl, wide_div hl.1 (small_lt hl.2) (by decide) (by decide), PO.pure h hM .int⟩
      · exact h.elim
    | _ => exact h.elim
  | _ => exact h.elim
theorem dMod_ok : OpR X (binaryOp .Mod) (rOpD ⟨X.K, ca, k⟩ dMod) := by
  intro pins s σ H x y v u Q I rx ry ⟨μ, m, a, b, hM, ra, rb, h⟩
  unfold dMod at h
  cases ra with
  | int => cases rb with
    | int =>
      dsimp only at h
      split at h
      · rename_i hl
        rw [decide_eq_true_eq] at hl
        exact op_mod pins s σ H _ _ v u Q I rx ry ⟨_, _, rfl, rfl, hl, PO.pure h hM .int⟩
      · exact h.elim
    | _ => exact h.elim
  | _ => exact h.elim
theorem dPow_ok : OpR X (binaryOp .Pow) (rOpD ⟨X.K, ca, k⟩ dPow) := by
  intro pins s σ H x y v u Q I rx ry ⟨μ, m, a, b, hM, ra, rb, h⟩
  unfold dPow at h
  cases ra with
  | int => cases rb with
    | int =>
      dsimp only at h
      split at h
      · rename_i hl
        simp only [Bool.and_eq_true, decide_eq_true_eq] at hl
        exact op_pow pins s σ H _ _ v u Q I rx ry ⟨_, _, rfl, rfl, ⟨hl.1.1, by omega, Nat.lt_of_lt_of_le (small_lt hl.2) (by decide)⟩, PO.pure h hM .int⟩
      · exact h.elim
    | _ => exact h.elim
  | _ => exact h.elim
theorem dNeg_ok : UnR X (unaryOp .USub) (rUnD ⟨X.K, ca, k⟩ dNeg) := by
  intro pins s σ H x v Q I rx ⟨μ, m, a, hM, ra, h⟩
  unfold dNeg at h
  cases ra with
  | int => exact un_neg pins s σ H _ v Q I rx ⟨_, rfl, PO.pure h hM .int⟩
  | _ => exact h.elim
theorem dEq_ok (hu : X.A.units + 70 < cLine) : OpR X (compareOp .Eq) (rOpD ⟨X.K, ca, k⟩ dEq) := by
  intro pins s σ H x y v u Q I rx ry ⟨μ, m, a, b, hM, ra, rb, h⟩
  unfold dEq at h
  split at h
  · rename_i r he
    exact (eqs_at I hM 60 a b r he x y v u X.A ra rb rx ry (by omega)).rc _ _ _ _ ⟨.bl r, H, I, rfl, PO.pure h hM .bl⟩
  · exact h.elim
theorem dNe_ok (hu : X.A.units + 70 < cLine) : OpR X (compareOp .NotEq) (rOpD ⟨X.K, ca, k⟩ dNe) := by
  intro pins s σ H x y v u Q I rx ry ⟨μ, m, a, b, hM, ra, rb, h⟩
  unfold dNe at h
  split at h
  · rename_i r he
    exact (eqs_at I hM 60 a b r he x y v u X.A ra rb rx ry (by omega)).ne _ _ _ _ ⟨.bl (!r), H, I, rfl, PO.pure h hM .bl⟩
  · exact h.elim
theorem int_op {op : CmpOp} {f : Int → Int → Bool} (ho : OpR X (compareOp op) (rI0 fun i j => .bl (f i j))) : OpR X (compareOp op) (rOpD ⟨X.K, ca, k⟩ (intOp f)) := by
  intro pins s σ H x y v u Q I rx ry ⟨μ, m, a, b, hM, ra, rb, h⟩
  unfold intOp at h
  cases ra with
  | int => cases rb with
    | int => exact ho pins s σ H _ _ v u Q I rx ry ⟨_, _, rfl, rfl, PO.pure h hM .bl⟩
    | _ => exact h.elim
  | _ => exact h.elim
theorem dLtI_ok : OpR X (compareOp .Lt) (rOpD ⟨X.K, ca, k⟩ dLtI) := int_op op_lt
theorem dLeI_ok : OpR X (compareOp .LtE) (rOpD ⟨X.K, ca, k⟩ dLeI) := int_op op_le
theorem dGtI_ok : OpR X (compareOp .Gt) (rOpD ⟨X.K, ca, k⟩ dGtI) := int_op op_gt
theorem dGeI_ok : OpR X (compareOp .GtE) (rOpD ⟨X.K, ca, k⟩ dGeI) := int_op op_ge
theorem isN_ok {a : D} {x : V} (r : RepV X.K μ H a x) : decide (x = V.non) = isN a := by
  cases r <;> simp [isN]
theorem dIs_ok : OpR X (compareOp .Is) (rOpD ⟨X.K, ca, k⟩ dIs) := by
  intro pins s σ H x y v u Q I rx ry ⟨μ, m, a, b, hM, ra, rb, h⟩
  unfold dIs at h
  cases rb with
  | non => exact op_isN pins s σ H _ _ v u Q I rx ry ⟨rfl, by rw [isN_ok ra]; exact PO.pure h hM .bl⟩
  | bl => cases ra with
    | bl =>
      refine op_is_bl pins s σ H _ _ v u Q I rx ry ⟨_, _, rfl, rfl, ?_⟩
      have := PO.pure h hM .bl
      simpa [Bool.beq_eq_decide_eq] using this
    | _ => exact h.elim
  | _ => exact h.elim
theorem dIsNot_ok : OpR X (compareOp .IsNot) (rOpD ⟨X.K, ca, k⟩ dIsNot) := by
  intro pins s σ H x y v u Q I rx ry ⟨μ, m, a, b, hM, ra, rb, h⟩
  unfold dIsNot at h
  cases rb with
  | non => exact op_notN pins s σ H _ _ v u Q I rx ry ⟨rfl, by rw [isN_ok ra]; exact PO.pure h hM .bl⟩
  | bl => cases ra with
    | bl =>
      refine op_isnot_bl pins s σ H _ _ v u Q I rx ry ⟨_, _, rfl, rfl, ?_⟩
      have := PO.pure h hM .bl
      simpa [Bool.beq_eq_decide_eq] using this
    | _ => exact h.elim
  | _ => exact h.elim
theorem dLen_ok : CallR X (.builtin "len") (rBID ⟨X.K, ca, k⟩ dLen) := by
  intro pins s σ H xs us Q I rv ⟨μ, m, as, hM, ra, h⟩
  unfold dLen at h
  split at h
  · cases ra with
    | cons r1 r2 =>
      cases r2
      cases r1 with
      | tup h1 h2 => exact call_len pins s σ H _ us Q I rv ⟨_, _, rfl, .inr ⟨_, h1, rfl⟩, by rw [← h2.len]; exact PO.pure h hM .int⟩
  · cases ra with
    | cons r1 r2 =>
      cases r2
      cases r1 with
      | str =>
        split at h
        · rename_i hl
          refine call_len pins s σ H _ us Q I rv ⟨_, _, rfl, ⟨by simpa [Str.length] using lim_line hl, rfl⟩, ?_⟩
          have := PO.pure h hM .int
          simpa [Str.length] using this
        · exact h.elim
  · cases ra with
    | cons r1 r2 =>
      cases r2
      cases r1 with
      | ref h1 =>
        split at h
        · rename_i ds he
          obtain ⟨vs, e1, e2⟩ := lst_at I hM h1 he
          exact call_len pins s σ H _ us Q I rv ⟨_, _, rfl, .inl ⟨_, e1, rfl⟩, by rw [← e2.len]; exact PO.pure h hM .int⟩
        · exact h.elim
  · exact h.elim
theorem dIx_ok : IxR X (rOpD ⟨X.K, ca, k⟩ dIx) := by
  intro va sl pins s σ H x y v u Q I rx ry ⟨μ, m, a, b, hM, ra, rb, h⟩ hs
  unfold dIx at h
  cases rb with
  | int =>
    dsimp only at h
    cases ra with
    | tup h1 h2 =>
      dsimp only at h
      split at h
      · rename_i d hd
        obtain ⟨w, e1, e2⟩ := rep_at h2 hd
        exact ix_tup va sl pins s σ H _ _ v u Q I rx ry ⟨_, _, _, _, rfl, rfl, h1, e1, PO.pure h hM e2⟩ hs
      · exact h.elim
    | str =>
      dsimp only at h
      split at h
      · rename_i hl
        split at h
        · rename_i c hc
          rw [atD_eq] at hc
          refine ix_str va sl pins s σ H _ _ v u Q I rx ry ⟨_, _, c, rfl, rfl, by simpa [Str.length] using lim_line hl, by simpa using hc, ?_⟩ hs
          exact PO.pure h hM .str
        · exact h.elim
      · exact h.elim
    | ref h1 =>
      dsimp only at h
      split at h
      · rename_i ds hds
        split at h
        · rename_i d hd
          obtain ⟨vs, g1, g2⟩ := lst_at I hM h1 hds
          obtain ⟨w, e1, e2⟩ := rep_at g2 hd
          exact ix_list va sl pins s σ H _ _ v u Q I rx ry ⟨_, _, _, _, rfl, rfl, g1, e1, PO.pure h hM e2⟩ hs
        · exact h.elim
      · exact h.elim
    | _ => exact h.elim
  | _ => exact h.elim
end
end CB

set_option Elab.async false
set_option linter.all false
set_option maxRecDepth 100000
set_option maxHeartbeats 4000000
namespace CB
open PySem PySem.Spec PyProof.Rows L2 PySem.SeqAt
section
variable {ca : Nat → Addr} {k : Ctx} {X : Cx} {W : WX} {pins : List (Addr × Obj)} {σ : L2.St} {H : Hp} {s : Shared} {μ : List Addr} {m : Mem}
theorem RelV.inj' {x y : V} {u : Value} (r : RelV x u) (q : RelV y u) : x = y := RelV.inj r q
theorem any_at (I : Inv X pins σ H s) (hM : RepM ⟨X.K, ca, k⟩ μ H m) {a : D} {x : V} {v : Value} {A : Around} (ra : RepV X.K μ H a x) (rv : RelV x v) (hu : A.units + 60 < cLine) : ∀ {ds : List D} {vs : List V} {its : List Value} {r : Bool}, RepVs X.K μ H ds vs → Vals vs its → anyD (fun d => eqD m 60 d a) ds = some r →
    ∃ e : Value → Bool, (∀ y ∈ its, EqAt A s y v (e y)) ∧ r = its.any e := by
  classical
  intro ds vs its r r1 r2 h
  refine ⟨fun y => decide (∃ d w, RepV X.K μ H d w ∧ RelV w y ∧ eqD m 60 d a = some true), ?_, ?_⟩
  · have key : ∀ (y : Value) (d : D) (w : V) (b : Bool), RepV X.K μ H d w → RelV w y → eqD m 60 d a = some b → EqAt A s y v (decide (∃ d w, RepV X.K μ H d w ∧ RelV w y ∧ eqD m 60 d a = some true)) := fun y d w b h1 h2 h3 => by
      have q := (eqs_at I hM 60 d a b h3 w x y v A h1 ra h2 rv hu).eq
      have e : decide (∃ d w, RepV X.K μ H d w ∧ RelV w y ∧ eqD m 60 d a = some true) = b := by
        cases b with
        | true => exact decide_eq_true ⟨d, w, h1, h2, h3⟩
        | false =>
          refine decide_eq_false fun ⟨d', w', g1, g2, g3⟩ => ?_
          have := RelV.inj h2 g2
          subst this
          have := RepV.inj I hM h1 g1
          subst this
          rw [h3] at g3; cases g3
      rw [e]; exact q
    clear ra
    induction ds generalizing vs its r with
    | nil => cases r1; cases r2; intro y hy; cases hy
    | cons d ds ih =>
      cases r1 with
      | cons a1 b1 =>
        cases r2 with
        | cons a2 b2 =>
          unfold anyD at h
          split at h
          · rename_i b c hb hc
            intro y hy
            rcases List.mem_cons.mp hy with rfl | hy
            · exact key _ d _ b a1 a2 hb
            · exact ih b1 b2 hc y hy
          · cases h
  · induction ds generalizing vs its r with
    | nil => cases r1; cases r2; cases h; rfl
    | cons d ds ih =>
      cases r1 with
      | cons a1 b1 =>
        cases r2 with
        | cons a2 b2 =>
          unfold anyD at h
          split at h
          · rename_i b c hb hc
            cases h
            rw [List.any_cons, ← ih b1 b2 hc]
            congr 1
            cases b with
            | true => exact (decide_eq_true ⟨d, _, a1, a2, hb⟩).symm
            | false =>
              refine (decide_eq_false fun ⟨d', w', g1, g2, g3⟩ => ?_).symm
              have := RelV.inj a2 g2
              subst this
              have := RepV.inj I hM a1 g1
              subst this
              rw [hb] at g3; cases g3
          · cases h
theorem in_at (hu : X.A.units + 70 < cLine) (I : Inv X pins σ H s) (hM : RepM ⟨X.K, ca, k⟩ μ H m) {a b : D} {x y : V} {v u : Value} {r : Bool} {m' : Mem} (ra : RepV X.K μ H a x) (rb : RepV X.K μ H b y) (rx : RelV x v) (ry : RelV y u) (h : dIn a b m = some (.bl r, m')) :
    m' = m ∧ (∀ (E Q : Value → Shared → Prop), Q (.bool r) s → wpAny (model X.prog X.w) X.A (compareOp .In v u) Q E s) ∧ (∀ (E Q : Value → Shared → Prop), Q (.bool (!r)) s → wpAny (model X.prog X.w) X.A (compareOp .NotIn v u) Q E s) := by
  have hu1 : X.A.in1.units + 60 < cLine := by rw [units_in1]; omega
  unfold dIn at h
  cases rb with
  | tup h1 h2 =>
    dsimp only at h
    split at h
    · rename_i r' he
      cases h
      obtain rfl := ry
      obtain ⟨its, rv, p, _⟩ := I.tuple h1
      obtain ⟨e, e1, e2⟩ := any_at (A := X.A.in1) I hM ra rx hu1 h2 rv he
      have e3 : r = its.toArray.any e := by rw [e2]; simp
      refine ⟨rfl, fun E Q q => in_tupleAt e p (fun y hy => e1 y (by simpa using hy)) (by rw [← e3]; exact q), fun E Q q => notIn_tupleAt e p (fun y hy => e1 y (by simpa using hy)) (by rw [← e3]; exact q)⟩
    · cases h
  | ref h1 =>
    dsimp only at h
    split at h
    · rename_i ds hd
      split at h
      · rename_i r' he
        cases h
        obtain rfl := ry
        obtain ⟨vs, g1, g2⟩ := lst_at I hM h1 hd
        obtain ⟨its, rv, p, _⟩ := I.list g1
        obtain ⟨e, e1, e2⟩ := any_at (A := X.A.in1) I hM ra rx hu1 g2 rv he
        have e3 : r = its.toArray.any e := by rw [e2]; simp
        refine ⟨rfl, fun E Q q => in_listAt e p.isList (fun y hy => e1 y (by simpa using hy)) (by rw [← e3]; exact q), fun E Q q => notIn_listAt e p.isList (fun y hy => e1 y (by simpa using hy)) (by rw [← e3]; exact q)⟩
      · cases h
    · cases h
  | _ => cases h
theorem dIn_bl {a b d : D} {m m' : Mem} (h : dIn a b m = some (d, m')) : ∃ r, d = .bl r := by
  unfold dIn at h
  split at h
  · split at h
    · cases h; exact ⟨_, rfl⟩
    · cases h
  · split at h
    · split at h
      · cases h; exact ⟨_, rfl⟩
      · cases h
    · cases h
  · cases h
theorem dIn_ok (hu : X.A.units + 70 < cLine) : OpR X (compareOp .In) (rOpD ⟨X.K, ca, k⟩ dIn) := by
  intro pins s σ H x y v u Q I rx ry ⟨μ, m, a, b, hM, ra, rb, h⟩
  cases e : dIn a b m with
  | none => rw [e] at h; exact h.elim
  | some p =>
    obtain ⟨d, m'⟩ := p
    obtain ⟨r, rfl⟩ := dIn_bl e
    obtain ⟨rfl, q, _⟩ := in_at hu I hM ra rb rx ry e
    rw [e] at h
    exact q _ _ ⟨.bl r, H, I, rfl, PO.pure h hM .bl⟩
theorem dNotIn_ok (hu : X.A.units + 70 < cLine) : OpR X (compareOp .NotIn) (rOpD ⟨X.K, ca, k⟩ dNotIn) := by
  intro pins s σ H x y v u Q I rx ry ⟨μ, m, a, b, hM, ra, rb, h⟩
  unfold dNotIn at h
  cases e : dIn a b m with
  | none => rw [e] at h; exact h.elim
  | some p =>
    obtain ⟨d, m'⟩ := p
    obtain ⟨r, rfl⟩ := dIn_bl e
    obtain ⟨rfl, _, q⟩ := in_at hu I hM ra rb rx ry e
    rw [e] at h
    exact q _ _ ⟨.bl (!r), H, I, rfl, PO.pure h hM .bl⟩
/-! kinds -/
theorem kits_non (T : Kd)  : kitB "NoneType" T.nm = some (T.has .non) := by
  cases T
  · exact (by decide +kernel : kitB "NoneType" "int" = some false)
  · exact (by decide +kernel : kitB "NoneType" "bool" = some false)
  · exact (by decide +kernel : kitB "NoneType" "str" = some false)
  · exact (by decide +kernel : kitB "NoneType" "tuple" = some false)
  · exact (by decide +kernel : kitB "NoneType" "list" = some false)
theorem kits_bl (T : Kd) (b : Bool) : kitB "bool" T.nm = some (T.has (.bl b)) := by
  cases T
  · exact (by decide +kernel : kitB "bool" "int" = some true)
  · exact (by decide +kernel : kitB "bool" "bool" = some true)
  · exact (by decide +kernel : kitB "bool" "str" = some false)
  · exact (by decide +kernel : kitB "bool" "tuple" = some false)
  · exact (by decide +kernel : kitB "bool" "list" = some false)
theorem kits_int (T : Kd) (b : Int) : kitB "int" T.nm = some (T.has (.int b)) := by
  cases T
  · exact (by decide +kernel : kitB "int" "int" = some true)
  · exact (by decide +kernel : kitB "int" "bool" = some false)
  · exact (by decide +kernel : kitB "int" "str" = some false)
  · exact (by decide +kernel : kitB "int" "tuple" = some false)
  · exact (by decide +kernel : kitB "int" "list" = some false)
theorem kits_str (T : Kd) (b : List Nat) : kitB "str" T.nm = some (T.has (.str b)) := by
  cases T
  · exact (by decide +kernel : kitB "str" "int" = some false)
  · exact (by decide +kernel : kitB "str" "bool" = some false)
  · exact (by decide +kernel : kitB "str" "str" = some true)
  · exact (by decide +kernel : kitB "str" "tuple" = some false)
  · exact (by decide +kernel : kitB "str" "list" = some false)
theorem kits_tup (T : Kd) (b : List D) : kitB "tuple" T.nm = some (T.has (.tup b)) := by
  cases T
  · exact (by decide +kernel : kitB "tuple" "int" = some false)
  · exact (by decide +kernel : kitB "tuple" "bool" = some false)
  · exact (by decide +kernel : kitB "tuple" "str" = some false)
  · exact (by decide +kernel : kitB "tuple" "tuple" = some true)
  · exact (by decide +kernel : kitB "tuple" "list" = some false)
theorem kits_ref (T : Kd) (b : Nat) : kitB "list" T.nm = some (T.has (.ref b)) := by
  cases T
  · exact (by decide +kernel : kitB "list" "int" = some false)
  · exact (by decide +kernel : kitB "list" "bool" = some false)
  · exact (by decide +kernel : kitB "list" "str" = some false)
  · exact (by decide +kernel : kitB "list" "tuple" = some false)
  · exact (by decide +kernel : kitB "list" "list" = some true)
theorem ty_at (hM : RepM ⟨X.K, ca, k⟩ μ H m) {d : D} {x : V} {b : Bool} {T : Kd} (r : RepV X.K μ H d x) (h : isiD T m d = some b) : ∃ t : Value, TyX X.K H x t ∧ PySem.W.kitOne X.K t (.type T.nm) = some b := by
  cases r with
  | non => cases h; exact ⟨_, .base .non, kit_ty (kits_non T)⟩
  | bl => cases h; exact ⟨_, .base (.bl _), kit_ty (kits_bl T _)⟩
  | int => cases h; exact ⟨_, .base (.int _), kit_ty (kits_int T _)⟩
  | str => cases h; exact ⟨_, .base (.str _), kit_ty (kits_str T _)⟩
  | tup h1 h2 =>
    cases h
    refine ⟨.type "tuple", ?_, kit_ty (kits_tup T _)⟩
    rcases h1 with (h1 | ⟨o, h1⟩) | ⟨o, its, n, e, c, _⟩
    · exact .base (.tup h1)
    · exact .fTuple h1
    · exact .kTuple e c
  | ref h1 =>
    unfold isiD at h
    dsimp only at h
    split at h
    · rename_i ds hd
      cases h
      refine ⟨.type "list", ?_, kit_ty (kits_ref T _)⟩
      obtain ⟨vs, g1, g2⟩ := lst_a hM h1 hd
      rcases g1 with (g1 | ⟨o, g1⟩) | ⟨o, its, n, e, c, _⟩
      · exact .base (.lst g1)
      · exact .base (.frz g1)
      · exact .kList e c
    · cases h
theorem so_isi (T : Kd) {e : Expr} {c : EC} {t : Str} {p p3 pos : Pos} (h : E? ca k X W e c) (hm : X.mg "isinstance" = none) (hmt : X.mg t = none) (hg : Gl X "isinstance" := by rfl) (hgt : Gl X t := by rfl) (hbt : bootBuiltins t = some (.type T.nm) := by decide +kernel)
    (hn : t ≠ "__name__" := by decide) (hdb : (t == ("__debug__" : Str)) = false := by decide)
    (h1 : starEach [e, .Name t p3] X.env = (false, eval e X.env) :: starEach [.Name t p3] X.env := by rfl) (hpl : (backTo pos (starEach [.Name t p3] X.env)).any (·.1) = false := by rfl) : E? ca k X W (.Call (.Name "isinstance" p) [e, .Name t p3] [] pos) (eIsi T c) :=
  ⟨PE.weak (pe_callB call_isi hg hm boot_isinstance (pa_cons h.pe (pa_cons (pe_bltn hgt hmt hbt (v := .ty T.nm) rfl hn hdb) pa_nil (by rfl)) h1) (by decide) (by decide) h1 hpl) fun σ H Q ⟨ρ, μ, m, he, hm, h⟩ => by
    refine ⟨ρ, μ, m, he, hm, Post.imp (Post.bind h) fun x H1 ⟨a, m1, μ1, e1, hm1, r1, h1⟩ => ?_⟩
    cases q : isiD T m1 a with
    | none => simp only [q] at h1; exact h1.elim
    | some b =>
      simp only [q] at h1
      obtain ⟨t, ty, kt⟩ := ty_at hm1 r1 q
      exact ⟨x, .ty T.nm, t, .type T.nm, b, rfl, .ty _, ty, kt, Post.okk h1 hm1 .bl⟩⟩
end
end CB

set_option Elab.async false
set_option linter.all false
set_option maxRecDepth 100000
set_option maxHeartbeats 4000000
namespace CB
open PySem PySem.Spec PyProof.Rows L2 PySem.SeqAt

/-! ### more operations -/
def insI (x : Int) : List Int → List Int
  | [] => [x]
  | y :: ys => if decide (x ≤ y) then x :: y :: ys else y :: insI x ys
def sortI : List Int → List Int
  | [] => []
  | x :: xs => insI x (sortI xs)
theorem insI_perm (x : Int) : ∀ ys, (insI x ys).Perm (x :: ys)
  | [] => .refl _
  | y :: ys => by
    unfold insI
    split
    · exact .refl _
    · exact ((insI_perm x ys).cons y).trans (.swap x y ys)
theorem sortI_perm : ∀ xs, (sortI xs).Perm xs
  | [] => .refl _
  | x :: xs => (insI_perm x _).trans ((sortI_perm xs).cons x)
theorem insI_sorted (x : Int) : ∀ ys : List Int, ys.Pairwise (· ≤ ·) → (insI x ys).Pairwise (· ≤ ·)
  | [], _ => List.pairwise_singleton _ _
  | y :: ys, h => by
    unfold insI
    rw [List.pairwise_cons] at h
    split
    · rename_i hl
      have hl : x ≤ y := of_decide_eq_true hl
      refine List.pairwise_cons.mpr ⟨fun z hz => ?_, List.pairwise_cons.mpr h⟩
      rcases List.mem_cons.mp hz with rfl | hz
      · exact hl
      · have := h.1 z hz; omega
    · rename_i hl
      have hl : ¬ x ≤ y := fun q => hl (decide_eq_true q)
      refine List.pairwise_cons.mpr ⟨fun z hz => ?_, insI_sorted x ys h.2⟩
      rcases List.mem_cons.mp ((insI_perm x ys).mem_iff.mp hz) with rfl | hz
      · omega
      · exact h.1 z hz
theorem sortI_sorted : ∀ xs : List Int, (sortI xs).Pairwise (· ≤ ·)
  | [] => .nil
  | x :: xs => insI_sorted x _ (sortI_sorted xs)
theorem sorted_uniq : ∀ {xs ys : List Int}, xs.Perm ys → xs.Pairwise (· ≤ ·) → ys.Pairwise (· ≤ ·) → xs = ys
  | [], ys, h, _, _ => (List.Perm.eq_nil h.symm).symm
  | x :: xs, [], h, _, _ => absurd h.length_eq (by simp)
  | x :: xs, y :: ys, h, h1, h2 => by
    have e : x = y := by
      have a : x ∈ y :: ys := h.mem_iff.mp List.mem_cons_self
      have b : y ∈ x :: xs := h.mem_iff.mpr List.mem_cons_self
      rw [List.pairwise_cons] at h1 h2
      rcases List.mem_cons.mp a with a | a
      · exact a
      · rcases List.mem_cons.mp b with b | b
        · exact b.symm
        · have := h1.1 y b; have := h2.1 x a; omega
    subst e
    rw [sorted_uniq (List.Perm.cons_inv h) (List.pairwise_cons.mp h1).2 (List.pairwise_cons.mp h2).2]
def intsOf : List D → Option (List Int)
  | [] => some []
  | .int i :: ds => match intsOf ds with | some ns => some (i :: ns) | none => none
  | _ :: _ => none
def boolsOf : List D → Option (List Bool)
  | [] => some []
  | .bl i :: ds => match boolsOf ds with | some ns => some (i :: ns) | none => none
  | _ :: _ => none
/-- the items of a list or a tuple -/
def seqOf (m : Mem) : D → Option (List D)
  | .tup ds => some ds
  | .ref i => lstOf m i
  | _ => none
def dSortedI (as : List D) (m : Mem) : O D := match as with
  | [a] => match seqOf m a with
    | some ds => match intsOf ds with
      | some ns => newL ((sortI ns).map .int) m
      | none => none
    | none => none
  | _ => none
def dList (as : List D) (m : Mem) : O D := match as with
  | [a] => match seqOf m a with
    | some ds => newL ds m
    | none => none
  | _ => none
def dTuple (as : List D) (m : Mem) : O D := match as with
  | [a] => match seqOf m a with
    | some ds => some (.tup ds, m)
    | none => none
  | _ => none
def sumI : List Int → Int
  | [] => 0
  | x :: xs => x + sumI xs
def dSumL (as : List D) (m : Mem) : O D := match as with
  | [.ref i] => match lstOf m i with
    | some ds => match intsOf ds with
      | some ns => some (.int (sumI ns), m)
      | none => none
    | none => none
  | _ => none
def dAll (as : List D) (m : Mem) : O D := match as with
  | [.ref i] => match lstOf m i with
    | some ds => match boolsOf ds with
      | some ns => some (.bl (ns.all id), m)
      | none => none
    | none => none
  | _ => none
def dMin (as : List D) (m : Mem) : O D := match as with
  | [.int i, .int j] => some (.int (if decide (j < i) then j else i), m)
  | _ => none
def dMax (as : List D) (m : Mem) : O D := match as with
  | [.int i, .int j] => some (.int (if decide (j > i) then j else i), m)
  | _ => none
def dAbs (as : List D) (m : Mem) : O D := match as with
  | [.int i] => some (.int (if decide (i < 0) then -i else i), m)
  | _ => none
def dInt (as : List D) (m : Mem) : O D := match as with
  | [.int i] => some (.int i, m)
  | [.bl b] => some (.int (if b then 1 else 0), m)
  | _ => none
section
variable {ca : Nat → Addr} {k : Ctx} {X : Cx} {W : WX} {pins : List (Addr × Obj)} {σ : L2.St} {H : Hp} {s : Shared} {μ : List Addr} {m : Mem}
theorem ints_of : ∀ {ds : List D} {vs : List V} {ns : List Int}, RepVs X.K μ H ds vs → intsOf ds = some ns → vs = ns.map V.int
  | [], _, _, .nil, h => by cases h; rfl
  | .int i :: ds, _, _, .cons .int t, h => by
    unfold intsOf at h
    split at h
    · rename_i ns e
      cases h
      rw [ints_of t e]; rfl
    · cases h
  | .non :: _, _, _, _, h => nomatch h
  | .bl _ :: _, _, _, _, h => nomatch h
  | .str _ :: _, _, _, _, h => nomatch h
  | .tup _ :: _, _, _, _, h => nomatch h
  | .ref _ :: _, _, _, _, h => nomatch h
theorem bools_of : ∀ {ds : List D} {vs : List V} {ns : List Bool}, RepVs X.K μ H ds vs → boolsOf ds = some ns → vs = ns.map V.bl
  | [], _, _, .nil, h => by cases h; rfl
  | .bl i :: ds, _, _, .cons .bl t, h => by
    unfold boolsOf at h
    split at h
    · rename_i ns e
      cases h
      rw [bools_of t e]; rfl
    · cases h
  | .non :: _, _, _, _, h => nomatch h
  | .int _ :: _, _, _, _, h => nomatch h
  | .str _ :: _, _, _, _, h => nomatch h
  | .tup _ :: _, _, _, _, h => nomatch h
  | .ref _ :: _, _, _, _, h => nomatch h
theorem rep_ints : ∀ ns : List Int, RepVs X.K μ H (ns.map D.int) (ns.map V.int)
  | [] => .nil
  | _ :: ns => .cons .int (rep_ints ns)
theorem seq_at (hM : RepM ⟨X.K, ca, k⟩ μ H m) {d : D} {x : V} {ds : List D} (r : RepV X.K μ H d x) (h : seqOf m d = some ds) : ∃ a vs, x = .ref a ∧ RepVs X.K μ H ds vs ∧ ((SqL X.K H a vs ∧ ∃ i, d = .ref i) ∨ (SqT X.K H a vs ∧ d = .tup ds)) := by
  cases r with
  | tup h1 h2 => cases h; exact ⟨_, _, rfl, h2, .inr ⟨h1, rfl⟩⟩
  | ref h1 => obtain ⟨vs, g1, g2⟩ := lst_a hM h1 h; exact ⟨_, _, rfl, g2, .inl ⟨g1, _, rfl⟩⟩
  | _ => cases h
theorem one_arg' {as : List D} {xs : List V} {a : D} (r : RepVs X.K μ H [a] xs) : ∃ x, xs = [x] ∧ RepV X.K μ H a x := by
  cases r with
  | cons r1 r2 => cases r2; exact ⟨_, rfl, r1⟩
theorem dList_ok : CallR X (.type "list") (rBID ⟨X.K, ca, k⟩ dList) := by
  intro pins s σ H xs us Q I rv ⟨μ, m, as, hM, ra, h⟩
  unfold dList at h
  split at h
  · rename_i a
    obtain ⟨x, rfl, rx⟩ := one_arg' (as := []) ra
    split at h
    · rename_i ds hd
      obtain ⟨b, vs, rfl, r2, r3⟩ := seq_at hM rx hd
      obtain ⟨_, q⟩ := newL_ok h hM r2
      exact call_list_of pins s σ H _ us Q I rv ⟨b, vs, rfl, r3.imp (·.1) (·.1), q⟩
    · exact h.elim
  · exact h.elim
theorem dTuple_ok : CallR X (.type "tuple") (rBID ⟨X.K, ca, k⟩ dTuple) := by
  intro pins s σ H xs us Q I rv ⟨μ, m, as, hM, ra, h⟩
  unfold dTuple at h
  split at h
  · rename_i a
    obtain ⟨x, rfl, rx⟩ := one_arg' (as := []) ra
    split at h
    · rename_i ds hd
      obtain ⟨b, vs, rfl, r2, r3⟩ := seq_at hM rx hd
      rcases r3 with ⟨r3, _⟩ | ⟨r3, rfl⟩
      · exact call_tuple_of pins s σ H _ us Q I rv ⟨b, vs, rfl, .inl ⟨r3, fun p hp => new_tup h hM r2 hp⟩⟩
      · exact call_tuple_of pins s σ H _ us Q I rv ⟨b, vs, rfl, .inr ⟨r3, PO.pure h hM (.tup r3 r2)⟩⟩
    · exact h.elim
  · exact h.elim
theorem sumI_eq : ∀ ns : List Int, sumI ns = ns.sum
  | [] => rfl
  | x :: xs => by rw [List.sum_cons, ← sumI_eq xs]; rfl
theorem dMin_ok (hc : X.calm = true) : CallR X (.builtin "min") (rBID ⟨X.K, ca, k⟩ dMin) := by
  intro pins s σ H xs us Q I rv ⟨μ, m, as, hM, ra, h⟩
  unfold dMin at h
  split at h
  · cases ra with
    | cons r1 r2 => cases r1; cases r2 with
      | cons r2 r3 =>
        cases r2; cases r3
        refine call_min2 hc pins s σ H _ us Q I rv ⟨_, _, rfl, ?_⟩
        have := PO.pure h hM .int
        simpa using this
  · exact h.elim
theorem dMax_ok (hc : X.calm = true) : CallR X (.builtin "max") (rBID ⟨X.K, ca, k⟩ dMax) := by
  intro pins s σ H xs us Q I rv ⟨μ, m, as, hM, ra, h⟩
  unfold dMax at h
  split at h
  · cases ra with
    | cons r1 r2 => cases r1; cases r2 with
      | cons r2 r3 =>
        cases r2; cases r3
        refine call_max2 hc pins s σ H _ us Q I rv ⟨_, _, rfl, ?_⟩
        have := PO.pure h hM .int
        simpa using this
  · exact h.elim
theorem dAbs_ok : CallR X (.builtin "abs") (rBID ⟨X.K, ca, k⟩ dAbs) := by
  intro pins s σ H xs us Q I rv ⟨μ, m, as, hM, ra, h⟩
  unfold dAbs at h
  split at h
  · cases ra with
    | cons r1 r2 =>
      cases r1; cases r2
      refine call_abs pins s σ H _ us Q I rv ⟨_, rfl, ?_⟩
      have := PO.pure h hM .int
      simpa using this
  · exact h.elim
theorem dInt_ok : CallR X (.type "int") (rBID ⟨X.K, ca, k⟩ dInt) := by
  intro pins s σ H xs us Q I rv ⟨μ, m, as, hM, ra, h⟩
  unfold dInt at h
  split at h
  · cases ra with
    | cons r1 r2 => cases r1; cases r2; exact call_int1 pins s σ H _ us Q I rv (.inl ⟨_, rfl, PO.pure h hM .int⟩)
  · cases ra with
    | cons r1 r2 => cases r1; cases r2; exact call_int1 pins s σ H _ us Q I rv (.inr ⟨_, rfl, PO.pure h hM .int⟩)
  · exact h.elim
end
end CB

set_option Elab.async false
set_option linter.all false
set_option maxRecDepth 100000
set_option maxHeartbeats 4000000
namespace CB
open PySem PySem.Spec PyProof.Rows L2 PySem.SeqAt

/-! ### what is walked -/
def srcL (i : Nat) : Src := fun j m => match lstOf m i with | some ds => some (nth ds j) | none => none
def srcT (ds : List D) : Src := fun j _ => some (nth ds j)
def srcR (lo : Int) (n : Nat) : Src := fun j _ => some (if Nat.blt j n then some (.int (lo + (j : Nat))) else none)
def srcB (hi : Int) (n : Nat) : Src := fun j _ => some (if Nat.blt j n then some (.int (hi - (j : Nat))) else none)
def srcRevL (i n : Nat) : Src := fun j m => if Nat.blt j n then (match lstOf m i with | some ds => (match nth ds (n - 1 - j) with | some d => some (some d) | none => none) | none => none) else some none
def icSeq (c : EC) : IC := fun k ρ m => (c k ρ m).bind fun d m => match d with
  | .tup ds => .ok (srcT ds, ds.length) m
  | .ref i => match lstOf m i with | some ds => .ok (srcL i, ds.length) m | none => .bad
  | _ => .bad
def icRev (c : EC) : IC := fun k ρ m => (c k ρ m).bind fun d m => match d with
  | .tup ds => .ok (srcT ds.reverse, ds.length) m
  | .ref i => match lstOf m i with | some ds => .ok (srcRevL i ds.length, ds.length) m | none => .bad
  | _ => .bad
abbrev RC := Ctx → Env → Mem → R (Int × Int)
def rg1 (c : EC) : RC := fun k ρ m => (c k ρ m).bind fun d m => match d with | .int j => .ok (0, j) m | _ => .bad
def rg2 (a b : EC) : RC := fun k ρ m => (a k ρ m).bind fun d m => match d with
  | .int i => (b k ρ m).bind fun e m => match e with | .int j => .ok (i, j) m | _ => .bad
  | _ => .bad
def icRg (r : RC) : IC := fun k ρ m => (r k ρ m).bind fun p m => if small 40 p.1 && small 40 p.2 then .ok (srcR p.1 (p.2 - p.1).toNat, (p.2 - p.1).toNat) m else .bad
def icRevRg (r : RC) : IC := fun k ρ m => (r k ρ m).bind fun p m => if small 40 p.1 && small 40 p.2 then .ok (srcB (p.1 + (((p.2 - p.1).toNat : Nat) : Int) - 1) (p.2 - p.1).toNat, (p.2 - p.1).toNat) m else .bad
def rgD (a b : Int) : List D := (List.range (b - a).toNat).map fun i => D.int (a + (i : Nat))
def eListRg (r : RC) : EC := fun k ρ m => (r k ρ m).bind fun p m => if small 40 p.1 && small 40 p.2 && Nat.ble (p.2 - p.1).toNat lim then (newL (rgD p.1 p.2) m).r else .bad
def eTupRg (r : RC) : EC := fun k ρ m => (r k ρ m).bind fun p m => if small 40 p.1 && small 40 p.2 && Nat.ble (p.2 - p.1).toNat lim then .ok (.tup (rgD p.1 p.2)) m else .bad

theorem small40 {i : Int} (h : small 40 i = true) : -(2 ^ 62) ≤ i ∧ i < 2 ^ 62 := by
  have := small_lt h
  constructor <;> omega
section
variable {G : Par} {ca : Nat → Addr} {k : Ctx} {X : Cx} {W : WX} {pins : List (Addr × Obj)} {σ : L2.St} {H : Hp} {s : Shared} {μ : List Addr} {m : Mem} {tg : Expr}
theorem Ext.same {K : PySem.W.Frag} : Ext K μ H μ H := .refl
theorem src_tup {a : Addr} {vs : List V} {ds : List D} (h : SqT G.K H a vs) (r : RepVs G.K μ H ds vs) : SrcOk G μ H (srcT ds) (Itt G.K a) := by
  intro i μ' H' m' e hm
  show match some (nth ds i) with | some (some d) => _ | some none => _ | none => _
  rw [nth_eq]
  have h' := e.tup _ _ h
  have r' := r.mono e
  cases q : ds[i]? with
  | none =>
    refine ⟨vs, h', ?_⟩
    rw [← r.len]
    exact List.getElem?_eq_none_iff.mp q
  | some d =>
    obtain ⟨v, hv, rv⟩ := r'.get q
    refine ⟨⟨vs, v, h', hv⟩, fun x H2 y => ?_⟩
    obtain ⟨e1, y⟩ := y
    subst e1
    have : v = x := Option.some.inj (hv.symm.trans (y vs h'))
    subst this
    exact ⟨.refl, hm, rv⟩
theorem src_lst (hX : G = ⟨X.K, ca, k⟩) {i : Nat} {a : Addr} (hi : μ[i]? = some a) : SrcOk G μ H (srcL i) (Itl G.K a) := by
  subst hX
  intro j μ' H' m' e hm
  unfold srcL
  have hi' := e.pre _ _ hi
  cases q : lstOf m' i with
  | none => trivial
  | some ds =>
    obtain ⟨vs, h1, r1⟩ := lst_a hm hi' q
    show match some (nth ds j) with | some (some d) => _ | some none => _ | none => _
    rw [nth_eq]
    cases z : ds[j]? with
    | none =>
      refine ⟨vs, h1, ?_⟩
      rw [← r1.len]
      exact List.getElem?_eq_none_iff.mp z
    | some d =>
      obtain ⟨v, hv, rv⟩ := r1.get z
      refine ⟨⟨vs, v, h1, hv⟩, fun x H2 y => ?_⟩
      obtain ⟨e1, y⟩ := y
      subst e1
      have : v = x := Option.some.inj (hv.symm.trans (y vs h1))
      subst this
      exact ⟨.refl, hm, rv⟩
theorem src_rng {lo : Int} {n : Nat} : SrcOk G μ H (srcR lo n) (Itr lo n) := by
  intro j μ' H' m' e hm
  unfold srcR
  by_cases h : j < n
  · rw [if_pos (Nat.blt_eq.mpr h)]
    refine ⟨h, fun x H2 y => ?_⟩
    obtain ⟨rfl, rfl⟩ := y
    exact ⟨.refl, hm, .int⟩
  · rw [if_neg (fun z => h (Nat.blt_eq.mp z))]
    exact Nat.le_of_not_lt h
theorem src_back {hi : Int} {n : Nat} : SrcOk G μ H (srcB hi n) (Itc hi (-1) n) := by
  intro j μ' H' m' e hm
  unfold srcB
  by_cases h : j < n
  · rw [if_pos (Nat.blt_eq.mpr h)]
    refine ⟨h, fun x H2 y => ?_⟩
    obtain ⟨rfl, rfl⟩ := y
    refine ⟨.refl, hm, ?_⟩
    have e2 : hi + ((j : Nat) : Int) * -1 = hi - ((j : Nat) : Int) := by omega
    rw [e2]
    exact .int
  · rw [if_neg (fun z => h (Nat.blt_eq.mp z))]
    exact Nat.le_of_not_lt h
theorem src_revT {a : Addr} {vs : List V} {ds : List D} (h : SqT G.K H a vs) (r : RepVs G.K μ H ds vs) : SrcOk G μ H (srcT ds.reverse) (RT.ItvT G.K a vs.length) := by
  intro i μ' H' m' e hm
  show match some (nth ds.reverse i) with | some (some d) => _ | some none => _ | none => _
  rw [nth_eq]
  have h' := e.tup _ _ h
  have r' := r.mono e
  cases q : ds.reverse[i]? with
  | none =>
    have := List.getElem?_eq_none_iff.mp q
    rw [List.length_reverse, r.len] at this
    exact this
  | some d =>
    have hl : i < ds.length := by
      rcases Nat.lt_or_ge i ds.reverse.length with z | z
      · simpa using z
      · rw [List.getElem?_eq_none z] at q; cases q
    rw [List.getElem?_reverse hl] at q
    obtain ⟨v, hv, rv⟩ := r'.get q
    rw [r.len] at hv
    refine ⟨⟨by rw [← r.len]; exact hl, vs, v, h', hv⟩, fun x H2 y => ?_⟩
    obtain ⟨e1, y⟩ := y
    subst e1
    have : v = x := Option.some.inj (hv.symm.trans (y vs h'))
    subst this
    exact ⟨.refl, hm, rv⟩
theorem src_revL (hX : G = ⟨X.K, ca, k⟩) {i n : Nat} {a : Addr} (hi : μ[i]? = some a) : SrcOk G μ H (srcRevL i n) (Itv G.K a n) := by
  subst hX
  intro j μ' H' m' e hm
  unfold srcRevL
  have hi' := e.pre _ _ hi
  by_cases h : j < n
  · rw [if_pos (Nat.blt_eq.mpr h)]
    cases q : lstOf m' i with
    | none => trivial
    | some ds =>
      obtain ⟨vs, h1, r1⟩ := lst_a hm hi' q
      dsimp only
      rw [nth_eq]
      cases z : ds[n - 1 - j]? with
      | none => trivial
      | some d =>
        obtain ⟨v, hv, rv⟩ := r1.get z
        refine ⟨⟨h, vs, v, h1, hv⟩, fun x H2 y => ?_⟩
        obtain ⟨e1, y⟩ := y
        subst e1
        have : v = x := Option.some.inj (hv.symm.trans (y vs h1))
        subst this
        exact ⟨.refl, hm, rv⟩
  · rw [if_neg (fun z => h (Nat.blt_eq.mp z))]
    exact Nat.le_of_not_lt h
theorem PI.weak {X : Cx} {iter : Expr} {w w' : TI} (h : PI X tg iter w) (f : ∀ σ H R, w' σ H R → w σ H R) : PI X tg iter w' := ⟨fun pins s σ H R I q => h.run pins s σ H R I (f _ _ _ q)⟩
/-- a list or a tuple, walked -/
def iAny (K : PySem.W.Frag) (tl : TE) : TI := fun σ H R => tl σ H fun x H1 => ∃ a, x = .ref a ∧ (((∃ xs, SqL K H1 a xs) ∧ R (Itl K a) H1) ∨ ((∃ xs, SqT K H1 a xs) ∧ R (Itt K a) H1))
theorem pi_any {l : Expr} {tl : TE} (hl : PE X l tl) : PI X tg l (iAny X.K tl) := by
  refine ⟨fun pins s σ H R I h => ?_⟩
  refine thn (hl.run pins s σ H _ I h) fun v s1 ⟨x, H1, I1, r1, q1⟩ => ?_
  obtain ⟨a, e, q1⟩ := q1
  subst e
  cases r1
  rcases q1 with ⟨⟨xs, hq⟩, q⟩ | ⟨⟨xs, hq⟩, q⟩
  · obtain ⟨its, rv, p, hz⟩ := I1.list hq
    refine wpAny_pyIter_list p.isList ?_
    refine ⟨s1.heap.objs.size, [s1.heap.objs.size], _, _, H1, rfl, I1.kept (t' := s1.toks) fun b o e => Heap.get?_push_of_some _ e, turn_list a _, ⟨_, Heap.get?_push_size _ rfl, rfl, rfl⟩, fun b hb => ?_, q⟩
    have e : b = s1.heap.objs.size := by simpa using hb
    subst e
    exact I1.fpOk (Nat.le_refl _) (I1.hok.fresh (Nat.le_refl _))
  · obtain ⟨its, rv, p, hz⟩ := I1.tuple hq
    refine wpAny_pyIter_tuple (show s1.heap.IsTuple a its.toArray from p) ?_
    refine ⟨s1.heap.objs.size, [s1.heap.objs.size], _, _, H1, rfl, I1.kept (t' := s1.toks) fun b o e => Heap.get?_push_of_some _ e, turn_tuple a _, ⟨_, Heap.get?_push_size _ rfl, rfl, rfl⟩, fun b hb => ?_, q⟩
    have e : b = s1.heap.objs.size := by simpa using hb
    subst e
    exact I1.fpOk (Nat.le_refl _) (I1.hok.fresh (Nat.le_refl _))
theorem si_seq {l : Expr} {c : EC} (h : E? ca k X W l c) : I? ca k X W tg l (icSeq c) :=
  ⟨PI.weak (pi_any h.pe) fun σ H R ⟨ρ, μ, m, he, hm, h⟩ => ⟨ρ, μ, m, he, hm, Post.imp (Post.bind h) fun x H1 ⟨a, m1, μ1, e1, hm1, r1, h1⟩ => by
    cases r1 with
    | tup g1 g2 => exact ⟨_, rfl, .inr ⟨⟨_, g1⟩, h1 _ _ _ .refl hm1 (src_tup g1 g2)⟩⟩
    | ref g1 =>
      dsimp only at h1
      split at h1
      · rename_i ds hd
        obtain ⟨vs, g2, g3⟩ := lst_a hm1 g1 hd
        exact ⟨_, rfl, .inl ⟨⟨_, g2⟩, h1 _ _ _ .refl hm1 (src_lst rfl g1)⟩⟩
      · exact h1.elim
    | _ => exact h1.elim⟩⟩
theorem si_rev {e : Expr} {c : EC} {p pos : Pos} (h : E? ca k X W e c) (hm : X.mg "reversed" = none) (hg : Gl X "reversed" := by rfl) (hs : starEach [e] X.env = (false, eval e X.env) :: starEach [] X.env := by rfl) : I? ca k X W tg (.Call (.Name "reversed" p) [e] [] pos) (icRev c) :=
  ⟨PI.weak (RT.pi_revA hg hm h.pe hs) fun σ H R ⟨ρ, μ, m, he, hm, h⟩ => ⟨ρ, μ, m, he, hm, Post.imp (Post.bind h) fun x H1 ⟨a, m1, μ1, e1, hm1, r1, h1⟩ => by
    cases r1 with
    | tup g1 g2 => exact ⟨_, _, rfl, .inr ⟨g1, h1 _ _ _ .refl hm1 (src_revT g1 g2)⟩⟩
    | ref g1 =>
      dsimp only at h1
      split at h1
      · rename_i ds hd
        obtain ⟨vs, g2, g3⟩ := lst_a hm1 g1 hd
        refine ⟨_, _, rfl, .inl ⟨g2, h1 _ _ _ .refl hm1 ?_⟩⟩
        show SrcOk _ _ _ (srcRevL _ _) _
        rw [g3.len]
        exact src_revL rfl g1
      · exact h1.elim
    | _ => exact h1.elim⟩⟩
/-! ranges -/
def tRG (G : Par) (W : WX) (r : RC) : L2.St → Hp → (Int → Int → Hp → Prop) → Prop := fun σ H Q => ∃ ρ μ m, RepE G.K μ H ρ σ ∧ RepM G μ H m ∧ Post G W σ μ H (fun _ _ (a b : Int × Int) => a = b) (fun (p : Int × Int) H' => Q p.1 p.2 H' ∧ ∃ μ' m', Ext G.K μ H μ' H' ∧ RepM G μ' H' m') (r G.k ρ m)
structure SR (ca : Nat → Addr) (k : Ctx) (X : Cx) (W : WX) (e : Expr) (r : RC) : Prop where
  w : ∃ t, PRg X e t ∧ ∀ σ H (Q : Int → Int → Hp → Prop), (∃ ρ μ m, RepE X.K μ H ρ σ ∧ RepM ⟨X.K, ca, k⟩ μ H m ∧ Post ⟨X.K, ca, k⟩ W σ μ H (fun _ _ (a b : Int × Int) => a = b) (fun (p : Int × Int) H' => Q p.1 p.2 H') (r k ρ m)) → t σ H Q
theorem sr_1 {a : Expr} {c : EC} {p pos : Pos} (h : E? ca k X W a c) (hm : X.mg "range" = none) (hg : Gl X "range" := by rfl) (na : starEach [a] X.env = (false, eval a X.env) :: starEach [] X.env := by rfl) : SR ca k X W (.Call (.Name "range" p) [a] [] pos) (rg1 c) :=
  ⟨_, prg_1 hg hm h.pe na, fun σ H Q ⟨ρ, μ, m, he, hm, h⟩ => ⟨ρ, μ, m, he, hm, Post.imp (Post.bind h) fun x H1 ⟨a, m1, μ1, e1, hm1, r1, h1⟩ => by
    cases r1 with
    | int => exact ⟨_, rfl, Post.okk (x := (0, _)) h1 hm1 rfl⟩
    | _ => exact h1.elim⟩⟩
theorem sr_2 {a b : Expr} {c d : EC} {p pos : Pos} (h : E? ca k X W a c) (h' : E? ca k X W b d) (hm : X.mg "range" = none) (hg : Gl X "range" := by rfl) (na : starEach [a, b] X.env = (false, eval a X.env) :: starEach [b] X.env := by rfl) (nb : starEach [b] X.env = (false, eval b X.env) :: starEach [] X.env := by rfl) : SR ca k X W (.Call (.Name "range" p) [a, b] [] pos) (rg2 c d) :=
  ⟨_, prg_2 hg hm h.pe h'.pe na nb (by rw [nb]; rfl), fun σ H Q ⟨ρ, μ, m, he, hm, h⟩ => ⟨ρ, μ, m, he, hm, Post.imp (Post.bind h) fun x H1 ⟨a, m1, μ1, e1, hm1, r1, h1⟩ => by
    cases r1 with
    | int =>
      exact ⟨ρ, μ1, m1, he.mono e1, hm1, Post.imp (Post.bind h1) fun y H2 ⟨b, m2, μ2, e2, hm2, r2, h2⟩ => by
        cases r2 with
        | int => exact ⟨_, _, rfl, rfl, Post.okk (x := (_, _)) h2 hm2 rfl⟩
        | _ => exact h2.elim⟩
    | _ => exact h1.elim⟩⟩
theorem PI_rg1 {a : Expr} {c : EC} {p pos : Pos} (h : E? ca k X W a c) (hm : X.mg "range" = none) (hg : Gl X "range" := by rfl) (hs : starEach [a] X.env = [(false, eval a X.env)] := by rfl) : I? ca k X W tg (.Call (.Name "range" p) [a] [] pos) (icRg (rg1 c)) :=
  ⟨PI.weak (pi_range1 hg hm (pa_cons h.pe pa_nil hs) hs) fun σ H R ⟨ρ, μ, m, he, hm, h⟩ => ⟨ρ, μ, m, he, hm, by
    replace h : Post ⟨X.K, ca, k⟩ W σ μ H (rI' ⟨X.K, ca, k⟩) R ((rg1 c k ρ m).bind _) := h
    unfold rg1 at h
    show Post ⟨X.K, ca, k⟩ W σ μ H (rD _) _ (c k ρ m)
    revert h
    cases c k ρ m with
    | exc x m1 => exact fun h => h
    | bad => exact fun h => h
    | ok d m1 =>
      intro h x H1 μ1 e1 hm1 r1
      cases r1 with
      | @int j =>
        dsimp only [CB.R.bind] at h
        split at h
        · rename_i hb
          rw [Bool.and_eq_true] at hb
          refine ⟨j, rfl, (small40 hb.2).1, (small40 hb.2).2, ?_⟩
          have := h (Itr 0 (j - 0).toNat) H1 μ1 e1 hm1 (src_rng)
          simpa using this
        · exact h.elim
      | _ => exact h.elim⟩⟩
theorem PI_rg2 {a b : Expr} {c d : EC} {p pos : Pos} (h : E? ca k X W a c) (h' : E? ca k X W b d) (hm : X.mg "range" = none) (hg : Gl X "range" := by rfl) (hs : starEach [a, b] X.env = [(false, eval a X.env), (false, eval b X.env)] := by rfl) (hs2 : starEach [b] X.env = [(false, eval b X.env)] := by rfl) (hs3 : starEach [a, b] X.env = (false, eval a X.env) :: starEach [b] X.env := by rfl) : I? ca k X W tg (.Call (.Name "range" p) [a, b] [] pos) (icRg (rg2 c d)) :=
  ⟨PI.weak (pi_range2 hg hm (pa_cons h.pe (pa_cons h'.pe pa_nil hs2) hs3) hs hs2) fun σ H R ⟨ρ, μ, m, he, hm, h⟩ => ⟨ρ, μ, m, he, hm, by
    replace h : Post ⟨X.K, ca, k⟩ W σ μ H (rI' ⟨X.K, ca, k⟩) R ((rg2 c d k ρ m).bind _) := h
    unfold rg2 at h
    show Post ⟨X.K, ca, k⟩ W σ μ H (rD _) _ (c k ρ m)
    revert h
    cases c k ρ m with
    | exc x m1 => exact fun h => h
    | bad => exact fun h => h
    | ok d1 m1 =>
      intro h x H1 μ1 e1 hm1 r1
      cases r1 with
      | @int i =>
        refine ⟨ρ, μ1, m1, he.mono e1, hm1, ?_⟩
        replace h := Post.ext e1 h
        dsimp only [CB.R.bind] at h
        show Post ⟨X.K, ca, k⟩ W σ μ1 H1 (rD _) _ (d k ρ m1)
        revert h
        cases d k ρ m1 with
        | exc x m2 => exact fun h => h
        | bad => exact fun h => h
        | ok d2 m2 =>
          intro h y H2 μ2 e2 hm2 r2
          cases r2 with
          | @int j =>
            dsimp only at h
            split at h
            · rename_i hb
              rw [Bool.and_eq_true] at hb
              exact ⟨i, j, rfl, ⟨(small40 hb.1).1, (small40 hb.1).2, (small40 hb.2).1, (small40 hb.2).2⟩, h (Itr i (j - i).toNat) H2 μ2 e2 hm2 src_rng⟩
            · exact h.elim
          | _ => exact h.elim
      | _ => exact h.elim⟩⟩
theorem si_revRg {e : Expr} {r : RC} {p pos : Pos} (h : SR ca k X W e r) (hm : X.mg "reversed" = none) (hg : Gl X "reversed" := by rfl) (hs : starEach [e] X.env = (false, eval e X.env) :: starEach [] X.env := by rfl) : I? ca k X W tg (.Call (.Name "reversed" p) [e] [] pos) (icRevRg r) := by
  obtain ⟨t, ht, hw⟩ := h.w
  refine ⟨PI.weak (pi_revR hg hm ht hs) fun σ H R ⟨ρ, μ, m, he, hm, h⟩ => hw _ _ _ ⟨ρ, μ, m, he, hm, Post.imp (Post.bind h) fun x H1 ⟨a, m1, μ1, e1, hm1, r1, h1⟩ => ?_⟩⟩
  subst r1
  split at h1
  · rename_i hb
    rw [Bool.and_eq_true] at hb
    exact ⟨(small40 hb.1).1, (small40 hb.1).2, (small40 hb.2).1, (small40 hb.2).2, h1 _ _ _ .refl hm1 src_back⟩
  · exact h1.elim
theorem rgOk_of {p : Int × Int} (h : (small 40 p.1 && small 40 p.2 && Nat.ble (p.2 - p.1).toNat lim) = true) : RgOk p.1 p.2 := by
  simp only [Bool.and_eq_true] at h
  exact ⟨(small40 h.1.1).1, (small40 h.1.1).2, (small40 h.1.2).1, (small40 h.1.2).2, Nat.le_trans (Nat.le_of_ble_eq_true h.2) (by decide)⟩
theorem rep_rg (a b : Int) : RepVs X.K μ H (rgD a b) (rgV a b) := by
  unfold rgD rgV
  generalize List.range (b - a).toNat = l
  induction l with
  | nil => exact .nil
  | cons i l ih => exact .cons .int ih
theorem so_listRg {e : Expr} {r : RC} {p pos : Pos} (h : SR ca k X W e r) (hm : X.mg "list" = none) (hc : X.calm = true) (hg : Gl X "list" := by rfl) (na : starEach [e] X.env = (false, eval e X.env) :: starEach [] X.env := by rfl) : E? ca k X W (.Call (.Name "list" p) [e] [] pos) (eListRg r) := by
  obtain ⟨t, ht, hw⟩ := h.w
  refine ⟨PE.weak (pe_listRg hc hg hm ht na) fun σ H Q ⟨ρ, μ, m, he, hm, h⟩ => hw _ _ _ ⟨ρ, μ, m, he, hm, Post.imp (Post.bind h) fun x H1 ⟨a, m1, μ1, e1, hm1, r1, h1⟩ => ?_⟩⟩
  subst r1
  split at h1
  · rename_i hb
    exact ⟨rgOk_of hb, (newL_ok (PO.of h1) hm1 (rep_rg _ _)).2⟩
  · exact h1.elim
theorem so_tupRg {e : Expr} {r : RC} {p pos : Pos} (h : SR ca k X W e r) (hm : X.mg "tuple" = none) (hc : X.calm = true) (hg : Gl X "tuple" := by rfl) (na : starEach [e] X.env = (false, eval e X.env) :: starEach [] X.env := by rfl) : E? ca k X W (.Call (.Name "tuple" p) [e] [] pos) (eTupRg r) := by
  obtain ⟨t, ht, hw⟩ := h.w
  refine ⟨PE.weak (pe_tupRg hc hg hm ht na) fun σ H Q ⟨ρ, μ, m, he, hm, h⟩ => hw _ _ _ ⟨ρ, μ, m, he, hm, Post.imp (Post.bind h) fun x H1 ⟨a, m1, μ1, e1, hm1, r1, h1⟩ => ?_⟩⟩
  subst r1
  split at h1
  · rename_i hb
    exact ⟨rgOk_of hb, fun p hp => new_tup (PO.of (o := some (_, _)) h1) hm1 (rep_rg _ _) hp⟩
  · exact h1.elim
end
end CB

set_option Elab.async false
set_option linter.all false
set_option maxRecDepth 100000
set_option maxHeartbeats 4000000
namespace CB
open PySem PySem.Spec PyProof.Rows L2 PySem.SeqAt

/-! ### lists that change; slices; sums -/
theorem loL_append (n : Nat) : ∀ {xs ys : List D}, D.loL n xs = true → D.loL n ys = true → D.loL n (xs ++ ys) = true
  | [], _, _, h => h
  | x :: xs, ys, h, h2 => by
    have z : (x.lo n && D.loL n xs) = true := h
    rw [Bool.and_eq_true] at z
    show (x.lo n && D.loL n (xs ++ ys)) = true
    rw [z.1, loL_append n z.2 h2]; rfl
theorem loL_one {n : Nat} {d : D} (h : d.lo n = true) : D.loL n [d] = true := by
  show (d.lo n && true) = true
  rw [h]; rfl
theorem loL_erase (n : Nat) : ∀ {xs : List D} {i : Nat}, D.loL n xs = true → D.loL n (xs.eraseIdx i) = true
  | [], _, h => h
  | x :: xs, 0, h => by
    have z : (x.lo n && D.loL n xs) = true := h
    rw [Bool.and_eq_true] at z
    exact z.2
  | x :: xs, i + 1, h => by
    have z : (x.lo n && D.loL n xs) = true := h
    rw [Bool.and_eq_true] at z
    show (x.lo n && D.loL n (xs.eraseIdx i)) = true
    rw [z.1, loL_erase n z.2]; rfl
theorem loL_set (n : Nat) {d : D} (hd : d.lo n = true) : ∀ {xs : List D} {i : Nat}, D.loL n xs = true → D.loL n (xs.set i d) = true
  | [], _, h => h
  | x :: xs, 0, h => by
    have z : (x.lo n && D.loL n xs) = true := h
    rw [Bool.and_eq_true] at z
    show (d.lo n && D.loL n xs) = true
    rw [hd, z.2]; rfl
  | x :: xs, i + 1, h => by
    have z : (x.lo n && D.loL n xs) = true := h
    rw [Bool.and_eq_true] at z
    show (x.lo n && D.loL n (xs.set i d)) = true
    rw [z.1, loL_set n hd z.2]; rfl
def sIxD (n d : Nat) : Option Int → Nat
  | none => d
  | some v => if decide (v < 0) then (v + (n : Int)).toNat else min v.toNat n
def cutD {α : Type} (xs : List α) (lo hi : Option Int) : List α := (xs.drop (sIxD xs.length 0 lo)).take (sIxD xs.length xs.length hi - sIxD xs.length 0 lo)
theorem sIxD_eq (n d : Nat) (o : Option Int) : sIxD n d o = HT.sIx n d o := by
  cases o with
  | none => rfl
  | some v =>
    unfold sIxD HT.sIx
    dsimp only
    by_cases h : v < 0
    · rw [if_pos h, if_pos (by simpa using h)]
    · rw [if_neg h, if_neg (by simpa using h)]
abbrev PC := Ctx → Env → Mem → R (Option Int)
def pNone : PC := fun _ _ m => .ok none m
def pSome (c : EC) : PC := fun k ρ m => (c k ρ m).bind fun d m => match d with | .int i => .ok (some i) m | _ => .bad
def dSl (a : D) (lo hi : Option Int) (m : Mem) : O D := match a with
  | .tup ds => some (.tup (cutD ds lo hi), m)
  | .ref i => match lstOf m i with
    | some ds => newL (cutD ds lo hi) m
    | none => none
  | _ => none
def eSl (a : EC) (lo hi : PC) : EC := fun k ρ m => (a k ρ m).bind fun x m => (lo k ρ m).bind fun l m => (hi k ρ m).bind fun u m => (dSl x l u m).r
def dClear (k : Ctx) (a : D) (as : List D) (m : Mem) : O D := match a, as with
  | .ref i, [] => match nth m i with
    | some (.lst ds) => some (.non, Mem.put m i (.lst []))
    | _ => none
  | _, _ => none
def dPop0 (k : Ctx) (a : D) (as : List D) (m : Mem) : O D := match a, as with
  | .ref i, [] => match nth m i with
    | some (.lst ds) => match nth ds (ds.length - 1) with
      | some d => some (d, Mem.put m i (.lst ds.dropLast))
      | none => none
    | _ => none
  | _, _ => none
def dExtend (k : Ctx) (a : D) (as : List D) (m : Mem) : O D := match a, as with
  | .ref i, [.ref j] => match nth m i, nth m j with
    | some (.lst ds), some (.lst es) => if Nat.ble (ds.length + es.length) lim && es.all (stOk k i) then some (.non, Mem.put m i (.lst (ds ++ es))) else none
    | _, _ => none
  | _, _ => none
section
variable {ca : Nat → Addr} {k : Ctx} {X : Cx} {W : WX} {pins : List (Addr × Obj)} {σ : L2.St} {H : Hp} {s : Shared} {μ : List Addr} {m : Mem}
/-- a list is changed -/
theorem put_ok {i : Nat} {a : Addr} {es : List D} {vs us : List V} {d : D} {x : V} {Q : VK} (h : PO ⟨X.K, ca, k⟩ μ H (rD ⟨X.K, ca, k⟩) Q (some (d, Mem.put m i (.lst es)))) (hM : RepM ⟨X.K, ca, k⟩ μ H m) (hi : μ[i]? = some a) (hv : H a = some (.lst vs)) (r : RepVs X.K μ H es us) (rd : RepV X.K μ H d x)
    (hl : ∀ b ∈ k, b ≤ i ∨ D.loL b es = true) : Q x (upd H a (.lst us)) := by
  have ex : Ext X.K μ H μ (upd H a (.lst us)) := ⟨fun _ _ h => h, fun _ _ h => SqT.upd_mut hv (fun _ z => nomatch z) (fun _ _ z => nomatch z) h⟩
  have hp := hM.put (c := .lst es) (o := .lst us) hi hv (fun _ z => nomatch z) (fun _ _ z => nomatch z) hl ⟨_, upd_same, r.mono ex⟩
  exact h _ _ _ hp.2 hp.1 (rd.mono ex)
theorem old_lo (hM : RepM ⟨X.K, ca, k⟩ μ H m) {i : Nat} {ds : List D} (e : nth m i = some (.lst ds)) {b : Nat} (hb : b ∈ k) : b ≤ i ∨ D.loL b ds = true := by
  rcases Nat.lt_or_ge i b with q | q
  · rw [nth_eq] at e
    exact .inr (hM.old b hb i _ q e)
  · exact .inl q
theorem stOk_of {i : Nat} {v : D} (h : stOk k i v = true) {b : Nat} (hb : b ∈ k) : b ≤ i ∨ v.lo b = true := by
  have := List.all_eq_true.mp h b hb
  rw [Bool.or_eq_true] at this
  exact this.imp Nat.le_of_ble_eq_true id
theorem all_lo {i : Nat} {l : List D} (h : ∀ y ∈ l, stOk k i y = true) {b : Nat} (hb : b ∈ k) : b ≤ i ∨ D.loL b l = true := by
  rcases Nat.lt_or_ge i b with q | q
  · refine .inr ?_
    induction l with
    | nil => rfl
    | cons y l ih =>
      show (y.lo b && D.loL b l) = true
      rcases stOk_of (h y List.mem_cons_self) hb with q' | q'
      · exact absurd q' (Nat.not_le_of_lt q)
      · rw [q', ih fun z hz => h z (List.mem_cons_of_mem _ hz)]; rfl
  · exact .inl q
theorem isLst_ty (μ : List Addr) (H : Hp) (m : Mem) (d : D) (v : V) (hM : RepM ⟨X.K, ca, k⟩ μ H m) (r : RepV X.K μ H d v) (h : isLst d m = true) : tyV X.K "list" v H := by
  cases r with
  | ref h1 =>
    unfold isLst at h
    dsimp only at h
    split at h
    · rename_i ds e
      obtain ⟨vs, g, _⟩ := lst_h hM h1 e
      exact .inl ⟨rfl, _, .of g⟩
    · cases h
  | _ => cases h
theorem dAppend_ok : MtR X "list.append" (rMtD ⟨X.K, ca, k⟩ (dAppend k)) := by
  intro pins s σ H x xs v us Q I rx rxs ⟨μ, m, a, as, hM, ra, rs, h⟩
  unfold dAppend at h
  split at h
  · obtain ⟨w, rfl, rw'⟩ := one_arg' (as := []) rs
    cases ra with
    | ref h1 =>
      split at h
      · rename_i ds e
        split at h
        · rename_i hb
          rw [Bool.and_eq_true] at hb
          obtain ⟨vs, g, r⟩ := lst_h hM h1 e
          refine mt_append pins s σ H _ _ v us Q I rx rxs ⟨_, _, _, rfl, rfl, g, by rw [← r.len]; exact lim_line' hb.1, ?_⟩
          refine put_ok h hM h1 g (r.append (.one rw')) .non fun b hb' => ?_
          rcases old_lo hM e hb' with z | z
          · exact .inl z
          · exact (stOk_of hb.2 hb').imp id fun q => loL_append b z (loL_one q)
        · exact h.elim
      · exact h.elim
  · exact h.elim
theorem dPop_ok : MtR X "list.pop" (rMtD ⟨X.K, ca, k⟩ (dPop k)) := by
  intro pins s σ H x xs v us Q I rx rxs ⟨μ, m, a, as, hM, ra, rs, h⟩
  unfold dPop at h
  split at h
  · obtain ⟨w, rfl, rw'⟩ := one_arg' (as := []) rs
    cases ra with
    | ref h1 =>
      cases rw' with
      | int =>
        split at h
        · rename_i ds e
          split at h
          · rename_i n en
            split at h
            · rename_i d ed
              split at h
              · rename_i hb
                have hb : _ < 2 ^ 60 := of_decide_eq_true hb
                obtain ⟨vs, g, r⟩ := lst_h hM h1 e
                rw [nth_eq] at ed
                obtain ⟨y, hy, ry⟩ := r.get ed
                rw [ixD_eq, r.len] at en
                refine mt_popAt pins s σ H _ _ v us Q I rx rxs ⟨_, _, _, n, y, rfl, rfl, g, by omega, by omega, (ixN_seq en).1, hy, ?_⟩
                refine put_ok h hM h1 g (r.eraseIdx n) ry fun b hb' => ?_
                exact (old_lo hM e hb').imp id fun z => loL_erase b z
              · exact h.elim
            · exact h.elim
          · exact h.elim
        · exact h.elim
  · exact h.elim
theorem dPop0_ok : MtR X "list.pop" (rMtD ⟨X.K, ca, k⟩ (dPop0 k)) := by
  intro pins s σ H x xs v us Q I rx rxs ⟨μ, m, a, as, hM, ra, rs, h⟩
  unfold dPop0 at h
  split at h
  · cases rs
    cases ra with
    | ref h1 =>
      split at h
      · rename_i ds e
        split at h
        · rename_i d ed
          obtain ⟨vs, g, r⟩ := lst_h hM h1 e
          rw [nth_eq] at ed
          obtain ⟨y, hy, ry⟩ := r.get ed
          refine mt_pop pins s σ H _ _ v us Q I rx rxs ⟨_, _, y, rfl, rfl, g, by rw [← r.len]; exact hy, ?_⟩
          have hr : RepVs X.K μ H ds.dropLast vs.dropLast := by
            rw [List.dropLast_eq_take, List.dropLast_eq_take, ← r.len]
            exact r.take _
          refine put_ok h hM h1 g hr ry fun b hb' => ?_
          refine (old_lo hM e hb').imp id fun z => ?_
          have : ∀ {xs : List D}, D.loL b xs = true → D.loL b xs.dropLast = true := fun {xs} => by
            induction xs with
            | nil => exact id
            | cons x xs ih =>
              intro z
              have z' : (x.lo b && D.loL b xs) = true := z
              rw [Bool.and_eq_true] at z'
              cases xs with
              | nil => rfl
              | cons y ys =>
                show (x.lo b && D.loL b (y :: ys).dropLast) = true
                rw [z'.1, ih z'.2]; rfl
          exact this z
        · exact h.elim
      · exact h.elim
  · exact h.elim
theorem dClear_ok : MtR X "list.clear" (rMtD ⟨X.K, ca, k⟩ (dClear k)) := by
  intro pins s σ H x xs v us Q I rx rxs ⟨μ, m, a, as, hM, ra, rs, h⟩
  unfold dClear at h
  split at h
  · cases rs
    cases ra with
    | ref h1 =>
      split at h
      · rename_i ds e
        obtain ⟨vs, g, r⟩ := lst_h hM h1 e
        exact mt_clear pins s σ H _ _ v us Q I rx rxs ⟨_, _, rfl, rfl, g, put_ok h hM h1 g .nil .non fun b _ => .inr rfl⟩
      · exact h.elim
  · exact h.elim
theorem dExtend_ok : MtR X "list.extend" (rMtD ⟨X.K, ca, k⟩ (dExtend k)) := by
  intro pins s σ H x xs v us Q I rx rxs ⟨μ, m, a, as, hM, ra, rs, h⟩
  unfold dExtend at h
  split at h
  · obtain ⟨w, rfl, rw'⟩ := one_arg' (as := []) rs
    cases ra with
    | ref h1 =>
      cases rw' with
      | ref h2 =>
        split at h
        · rename_i ds es e1 e2
          split at h
          · rename_i hb
            rw [Bool.and_eq_true] at hb
            obtain ⟨vs, g, r⟩ := lst_h hM h1 e1
            obtain ⟨ws, g', r'⟩ := lst_h hM h2 e2
            refine mt_extend pins s σ H _ _ v us Q I rx rxs ⟨_, _, _, _, rfl, rfl, g, g', by rw [← r.len, ← r'.len]; exact lim_line hb.1, ?_⟩
            refine put_ok h hM h1 g (r.append r') .non fun b hb' => ?_
            rcases old_lo hM e1 hb' with z | z
            · exact .inl z
            · exact (all_lo (List.all_eq_true.mp hb.2) hb').imp id fun q => loL_append b z q
          · exact h.elim
        · exact h.elim
  · exact h.elim
/-! a[i] = v -/
def gSet (o i : EC) : D → Ctx → Env → Mem → RS := fun d k ρ m => (o k ρ m).st ρ fun x m => (i k ρ m).st ρ fun y m => match dSet k x y d m with | some m => .nx ρ m | none => .bad
def sSetIx (o i c : EC) : SC := fun k ρ m => (c k ρ m).st ρ fun d m => gSet o i d k ρ m
theorem s_setIx {o i e : Expr} {co ci c : EC} {pos pos' : Pos} (h : E? ca k X W e c) (ho : E? ca k X W o co) (hi : E? ca k X W i ci) (hs : swapsWithSole [.Subscript o i pos'] e pos.line X.env = pure false := by rfl) (hw : swappedStores [.Subscript o i pos'] e X.env = pure none := by rfl)
    (h1 : (assignEach [.Subscript o i pos'] X.env).map (·.2) = [assign (.Subscript o i pos') X.env] := by rfl)
    (ha : ∀ v, assign (.Subscript o i pos') X.env v = (do
      let ov ← holding [v] (eval o X.env)
      let iv ← holding [v, ov] (eval i X.env)
      standAt pos'
      holding [v, ov, iv] (setItem ov iv v)
      release [v, ov, iv] []) := by intro _; rfl) : S? ca k X W (.Assign [.Subscript o i pos'] e pos) (sSetIx co ci c) :=
  ⟨PS.weak (ps_asg h.pe (pg_sub ho.pe hi.pe set_list ha) hs hw h1) fun D σ H ⟨ρ, μ, m, he, hm, h⟩ => ⟨ρ, μ, m, he, hm, Post.imp (PostS.st h he) fun x H1 ⟨d, m1, μ1, e1, hm1, r1, h1⟩ =>
    ⟨ρ, μ1, m1, he.mono e1, hm1, Post.imp (PostS.st h1 (he.mono e1)) fun y H2 ⟨a, m2, μ2, e2, hm2, r2, h2⟩ =>
      ⟨ρ, μ2, m2, (he.mono e1).mono e2, hm2, Post.imp (PostS.st h2 ((he.mono e1).mono e2)) fun z H3 ⟨b, m3, μ3, e3, hm3, r3, h3⟩ => by
        have hE := ((he.mono e1).mono e2).mono e3
        have r1' := (r1.mono e2).mono e3
        have r2' := r2.mono e3
        unfold dSet at h3
        split at h3
        · rename_i m4 hm4
          split at hm4
          · cases r2' with
            | ref g1 =>
              cases r3 with
              | int =>
                split at hm4
                · rename_i ds ed
                  split at hm4
                  · rename_i n en
                    split at hm4
                    · rename_i hb
                      cases hm4
                      obtain ⟨vs, g, r⟩ := lst_h hm3 g1 ed
                      rw [ixD_eq, r.len] at en
                      refine ⟨_, _, _, _, rfl, rfl, g, en, ?_⟩
                      have ex : Ext X.K μ3 H3 μ3 (upd H3 _ (.lst (vs.set n x))) := ⟨fun _ _ h => h, fun _ _ h => SqT.upd_mut g (fun _ z => nomatch z) (fun _ _ z => nomatch z) h⟩
                      have hp := hm3.put (c := .lst (ds.set n d)) (o := .lst (vs.set n x)) g1 g (fun _ z => nomatch z) (fun _ _ z => nomatch z) (fun b hb' => by
                        rcases old_lo hm3 ed hb' with z | z
                        · exact .inl z
                        · exact (stOk_of hb hb').imp id fun q => loL_set b q z) ⟨_, upd_same, (r.set r1' n).mono ex⟩
                      exact h3 _ _ _ hp.2 hp.1 (hE.mono hp.2)
                    · cases hm4
                  · cases hm4
                · cases hm4
          · cases hm4
        · exact h3.elim⟩⟩⟩⟩
/-! slices -/
structure SPo (ca : Nat → Addr) (k : Ctx) (X : Cx) (W : WX) (e : Option Expr) (c : PC) : Prop where
  w : ∃ t, L2.PO X e t ∧ ∀ σ H (Q : Option Int → Hp → Prop), (∃ ρ μ m, RepE X.K μ H ρ σ ∧ RepM ⟨X.K, ca, k⟩ μ H m ∧ Post ⟨X.K, ca, k⟩ W σ μ H (fun _ _ (a b : Option Int) => a = b) Q (c k ρ m)) → t σ H Q
theorem spo_none : SPo ca k X W none pNone := ⟨_, po_none, fun σ H Q ⟨ρ, μ, m, he, hm, h⟩ => Post.okk h hm rfl⟩
theorem spo_some {e : Expr} {c : EC} (h : E? ca k X W e c) : SPo ca k X W (some e) (pSome c) := ⟨_, po_some h.pe, fun σ H Q ⟨ρ, μ, m, he, hm, h⟩ => ⟨ρ, μ, m, he, hm, Post.imp (Post.bind h) fun x H1 ⟨a, m1, μ1, e1, hm1, r1, h1⟩ => by
  cases r1 with
  | int => exact ⟨_, rfl, Post.okk (x := some _) h1 hm1 rfl⟩
  | _ => exact h1.elim⟩⟩
theorem cut_ok {ds : List D} {vs : List V} (r : RepVs X.K μ H ds vs) (lo hi : Option Int) : RepVs X.K μ H (cutD ds lo hi) (cutV vs lo hi) := by
  unfold cutD cutV
  rw [sIxD_eq, sIxD_eq, ← r.len]
  exact (r.drop _).take _
theorem cutV_all {vs : List V} {lo hi : Option Int} (h : HT.sIx vs.length 0 lo = 0 ∧ HT.sIx vs.length vs.length hi = vs.length) : cutV vs lo hi = vs := by
  unfold cutV
  rw [h.1, h.2]; simp
def rSlD (G : Par) : V → Option Int → Option Int → Hp → VK → Prop := fun x lo hi H Q => ∃ μ m a, RepM G μ H m ∧ RepV G.K μ H a x ∧ PO G μ H (rD G) Q (dSl a lo hi m)
theorem dSl_ok : SlR X (rSlD ⟨X.K, ca, k⟩) := by
  intro pins s σ H x v vl vu lo hi sl Q I rx h1 h2 h3 ⟨μ, m, a, hM, ra, h⟩
  unfold dSl at h
  cases ra with
  | tup g1 g2 =>
    refine sl_tupA pins s σ H _ v vl vu lo hi sl Q I rx h1 h2 h3 ⟨_, _, rfl, g1, fun z => ?_, fun _ p hp => new_tup h hM (cut_ok g2 lo hi) hp⟩
    have r := cut_ok g2 lo hi
    rw [cutV_all z] at r
    exact PO.pure h hM (.tup g1 r)
  | ref g1 =>
    dsimp only at h
    split at h
    · rename_i ds hd
      obtain ⟨vs, b1, b2⟩ := lst_a hM g1 hd
      exact sl_list pins s σ H _ v vl vu lo hi sl Q I rx h1 h2 h3 ⟨_, _, rfl, b1, (newL_ok h hM (cut_ok b2 lo hi)).2⟩
    · exact h.elim
  | _ => exact h.elim
theorem so_sl {e : Expr} {lo hi : Option Expr} {c : EC} {cl ch : PC} {pos p2 : Pos} (h : E? ca k X W e c) (hl : SPo ca k X W lo cl) (hh : SPo ca k X W hi ch) : E? ca k X W (.Subscript e (.Slice lo hi none p2) pos) (eSl c cl ch) := by
  obtain ⟨tl, l1, l2⟩ := hl.w
  obtain ⟨th, h1, h2⟩ := hh.w
  refine ⟨PE.weak (pe_slice (dSl_ok (ca := ca) (k := k)) h.pe l1 h1) fun σ H Q ⟨ρ, μ, m, he, hm, h⟩ => ⟨ρ, μ, m, he, hm, Post.imp (Post.bind h) fun x H1 ⟨a, m1, μ1, e1, hm1, r1, k1⟩ => ?_⟩⟩
  refine l2 _ _ _ ⟨ρ, μ1, m1, he.mono e1, hm1, Post.imp (Post.bind k1) fun l H2 ⟨l', m2, μ2, e2, hm2, r2, k2⟩ => ?_⟩
  subst r2
  refine h2 _ _ _ ⟨ρ, μ2, m2, (he.mono e1).mono e2, hm2, Post.imp (Post.bind k2) fun u H3 ⟨u', m3, μ3, e3, hm3, r3, k3⟩ => ?_⟩
  subst r3
  exact ⟨μ3, m3, a, hm3, (r1.mono e2).mono e3, PO.of k3⟩
/-! sums -/
theorem dSumL_ok (hc : X.calm = true) : CallR X (.builtin "sum") (rBID ⟨X.K, ca, k⟩ dSumL) := by
  intro pins s σ H xs us Q I rv ⟨μ, m, as, hM, ra, h⟩
  unfold dSumL at h
  split at h
  · obtain ⟨x, rfl, rx⟩ := one_arg' (as := []) ra
    cases rx with
    | ref h1 =>
      split at h
      · rename_i ds hd
        split at h
        · rename_i ns hn
          obtain ⟨vs, g1, g2⟩ := lst_a hM h1 hd
          have e := ints_of g2 hn
          subst e
          refine cr_sum hc pins s σ H _ us Q I rv ⟨_, ns, rfl, g1, ?_⟩
          rw [← sumI_eq]
          exact PO.pure h hM .int
        · exact h.elim
      · exact h.elim
  · exact h.elim
theorem dAll_ok (hc : X.calm = true) : CallR X (.builtin "all") (rBID ⟨X.K, ca, k⟩ dAll) := by
  intro pins s σ H xs us Q I rv ⟨μ, m, as, hM, ra, h⟩
  unfold dAll at h
  split at h
  · obtain ⟨x, rfl, rx⟩ := one_arg' (as := []) ra
    cases rx with
    | ref h1 =>
      split at h
      · rename_i ds hd
        split at h
        · rename_i ns hn
          obtain ⟨vs, g1, g2⟩ := lst_a hM h1 hd
          have e := bools_of g2 hn
          subst e
          exact cr_all hc pins s σ H _ us Q I rv ⟨_, ns, rfl, g1, PO.pure h hM .bl⟩
        · exact h.elim
      · exact h.elim
  · exact h.elim
/-! raise C('..') -/
theorem s_raise {c : Nat} {B : String} {newId initId : String} {bmB : List Value} {x mm : Str} {j : Nat} {p p2 pos pos' : Pos} (tk : Takes X W) (F : ExcBaseFacts B newId initId bmB) (q : PySem.W.excIn X.K (ca c) bmB newId = true) (gC : X.mg x = some (.ref (ca c))) (kC : PySem.W.keepIn X.K (.ref (ca c)) = true) (r1 : PySem.W.subIn X.K (.ref (ca c)) (.type "BaseException") = some true) (r2 : PySem.W.typeIn X.K (.ref (ca c)) = some (.type "type")) (hc : X.calm = true) (hg : Gl X x := by rfl)
    (hdb : (x == ("__debug__" : Str)) = false := by decide) : S? ca k X W (.Raise (some (.Call (.Name x p) [.Constant (.str mm) j p2] [] pos)) none pos') (sRaise c) :=
  ⟨PS.weak (ps_raise hc tk (pmk_own F q gC kC (raises_own r1 r2) hg hdb)) fun D σ H ⟨ρ, μ, m, he, hm, h⟩ => h _ none σ H μ .refl hm he ⟨rfl, rfl⟩⟩
end
end CB

set_option Elab.async false
set_option linter.all false
set_option maxRecDepth 100000
set_option maxHeartbeats 4000000
namespace CB
open PySem PySem.Spec PyProof.Rows L2 PySem.SeqAt

section
variable {prog : Program} {w : World} {A : Around} {E : Value → Shared → Prop} {s : Shared}
theorem collect_tup {l : Addr} {vs : List Value} {Q : List Value → Shared → Prop} (hl : s.heap.IsTuple l vs.toArray)
    (h : Q vs { s with heap := (s.heap.push (seqObj "list" #[] 0)).update s.heap.objs.size (Obj.mapSeq (· ++ vs.toArray)) }) (hsz : vs.length ≤ sizeLine) :
    wpAny (model prog w) A (collect (.ref l)) Q E s := by
  obtain ⟨o, ho, hc, n, hd⟩ := id hl
  unfold collect
  refine wpAny_bind (wpAny_runValue (codeAny_builtin entry_proto_collect' ?_))
  show wpAny _ _ (do again (.builtin "list.__iadd__" ⟨[← newList [], .ref l], []⟩)) _ _ s
  refine wpAny_bind (wpAny_newList (wpAny_pure ⟨Code.quiet_builtin _ (by decide +kernel), codeAny_builtin entry_list_iadd' ?_⟩))
  show wpAny _ _ (Builtin.List.listExtendWith (.ref s.heap.objs.size) (.ref l) (.ref s.heap.objs.size)) _ _ { s with heap := s.heap.push (seqObj "list" #[] 0) }
  unfold Builtin.List.listExtendWith
  have ho' : (s.heap.push (seqObj "list" #[] 0)).get? l = some o := Heap.get?_push_of_some _ ho
  refine wpAny_bind (wpAny_typeOf (T := "tuple") ⟨o, ho', hc⟩ ?_)
  have ht : (Value.type "tuple" == Value.type "tuple") = true := by rfl
  rw [if_pos (by rw [ht]; simp)]
  refine wpAny_bind (listItems_at ho' hd ?_)
  refine wpAny_bind (listItems_at (xs := #[]) (n := 0) (Heap.get?_push_size _ rfl) rfl ?_)
  rw [if_neg (by simp)]
  refine wpAny_bind (listUpdate_at (xs := #[]) (n := 0) (Heap.get?_push_size _ rfl) rfl ?_ (Nat.zero_le _) (by show (#[] ++ vs.toArray).size ≤ sizeLine + 1; simp only [Array.size_append, List.size_toArray, List.length_nil]; omega))
  refine wpAny_pure ?_
  show wpAny (model prog w) A (do
      let o ← load s.heap.objs.size
      match o.data with
      | .seq xs _ => pure xs.toList
      | _ => unsupported "internal:collect") Q E { s with heap := (s.heap.push (seqObj "list" #[] 0)).update s.heap.objs.size (Obj.mapSeq (· ++ vs.toArray)) }
  refine wpAny_bind (wpAny_load (get?_update_seq (Heap.get?_push_size _ rfl) _) ?_)
  show wpAny _ _ (pure ((#[] : Array Value) ++ vs.toArray).toList) Q E _
  rw [show ((#[] : Array Value) ++ vs.toArray).toList = vs by simp]
  exact wpAny_pure h
/-- sorted(t), t a tuple -/
theorem sorted_ordT {l : Addr} {vs : List Value} {ltv : Value → Value → Bool} {Q : Value → Shared → Prop} (O : SrtO.Swo ltv) (hl : s.heap.IsTuple l vs.toArray) (hz : vs.length ≤ sizeLine)
    (hS : 2 ≤ vs.length → ∀ (h₁ : Heap) (a : Addr), h₁.get? a = some (seqObj "list" vs.toArray 0) → (∀ b o, s.heap.get? b = some o → b ≠ a ∧ h₁.get? b = some o) → SrtO.SortableO prog w A.in1.in1 { s with heap := h₁ } a vs ltv)
    (h : ∀ out : List Value, SrtO.Srtd ltv out → SrtO.Stb ltv out vs → Q (.ref (s.heap.objs.size + 1)) { s with heap := sortedAll s.heap vs out.toArray }) :
    wpAny (model prog w) A (call (.builtin "sorted") [.ref l]) Q E s := by
  refine Calls.call_function_entry kind_sorted plain_sorted entry_sorted (args_sorted1 _) ?_
  unfold Builtin.«sorted»
  refine wpAny_bind (m := checkCount "sorted" 1 1 _) (wpAny_pure ?_)
  refine wpAny_bind (collect_tup hl ?_ hz)
  refine wpAny_bind (wpAny_newList ?_ hz)
  have hsz : ((s.heap.push (seqObj "list" #[] 0)).update s.heap.objs.size (Obj.mapSeq (· ++ vs.toArray))).objs.size = s.heap.objs.size + 1 := by
    rw [Heap.size_update, size_push']
  have hoL : (((s.heap.push (seqObj "list" #[] 0)).update s.heap.objs.size (Obj.mapSeq (· ++ vs.toArray))).push (seqObj "list" vs.toArray 0)).get? (s.heap.objs.size + 1) = some (seqObj "list" vs.toArray 0) := by
    rw [← hsz]; exact Heap.get?_push_size _ rfl
  have keep : ∀ b o, s.heap.get? b = some o → b ≠ s.heap.objs.size + 1 ∧ (((s.heap.push (seqObj "list" #[] 0)).update s.heap.objs.size (Obj.mapSeq (· ++ vs.toArray))).push (seqObj "list" vs.toArray 0)).get? b = some o := fun b o q => by
    have hlt : b < s.heap.objs.size := Heap.lt_size q
    refine ⟨Nat.ne_of_lt (Nat.lt_succ_of_lt hlt), Heap.get?_push_of_some _ ?_⟩
    rw [Heap.get?_update_ne _ _ _ _ (Nat.ne_of_lt hlt)]
    exact Heap.get?_push_of_some _ q
  show wpAny _ _ _ _ _ { s with heap := ((s.heap.push (seqObj "list" #[] 0)).update s.heap.objs.size (Obj.mapSeq (· ++ vs.toArray))).push (seqObj "list" vs.toArray 0) }
  rw [hsz]
  refine wpAny_bind (wpAny_holding (wpAny_call_entry slot_list_sort ⟨_, hoL, rfl⟩ entry_list_sort (SrtO.list_sort_ord O hoL hz (fun h2 => hS h2 _ _ hoL keep) fun out hs hb => ⟨_, rfl, ?_⟩) (args_list_sort _)))
  exact wpAny_pure ⟨_, rfl, h out hs hb⟩
end
section
variable {ca : Nat → Addr} {k : Ctx} {X : Cx} {W : WX} {pins : List (Addr × Obj)} {σ : L2.St} {H : Hp} {s : Shared} {μ : List Addr} {m : Mem}
theorem dSortedI_ok : CallR X (.builtin "sorted") (rBID ⟨X.K, ca, k⟩ dSortedI) := by
  intro pins s σ H xs us Q I rv ⟨μ, m, as, hM, ra, h⟩
  unfold dSortedI at h
  split at h
  · rename_i a
    obtain ⟨x, rfl, rx⟩ := one_arg' (as := []) ra
    split at h
    · rename_i ds hd
      split at h
      · rename_i ns hn
        obtain ⟨b, vs, rfl, r2, r3⟩ := seq_at hM rx hd
        have e := ints_of r2 hn
        subst e
        obtain ⟨_, q⟩ := newL_ok (vs := (sortI ns).map V.int) h hM (rep_ints _)
        rcases r3 with ⟨r3, _⟩ | ⟨r3, rfl⟩
        · refine cr_sortedI pins s σ H _ us Q I rv ⟨b, ns, rfl, r3, fun ns' p h1 h2 hp => ?_⟩
          rw [sorted_uniq (h1.trans (sortI_perm ns).symm) h2 (sortI_sorted ns)]
          exact q p hp
        · obtain ⟨its, rv', hl, hz⟩ := I.tuple r3
          rw [Vals.ref1 rv]
          have hi := rv'.ints
          refine sorted_ordT SrtO.swo_int hl (by rw [← rv'.length]; exact hz) (fun h2 h₁ a' _ _ => SrtO.ints_sortable hi h2) fun out h1 h2 => ?_
          obtain ⟨k1, k2, k3⟩ := SrtO.ints_out hi h1 h2
          obtain ⟨ep, he'⟩ := PyProof.Rows.sortedAll_at s.heap its out.toArray
          have hlen : ((out.map SrtO.iv).map V.int).length ≤ sizeLine := by
            rw [List.length_map, k2.length_eq]
            rw [List.length_map] at hz
            exact hz
          have e2 := sorted_uniq (k2.trans (sortI_perm ns).symm) k3 (sortI_sorted ns)
          refine ⟨.ref _, upd H (s.heap.objs.size + 1) (.lst ((out.map SrtO.iv).map V.int)), I.laid (t' := s.toks) (fun _ _ => PyProof.Rows.sortedAll_old) (Nat.le_succ _) ⟨hlen, out, ep, vals_of_ints k1, he'⟩, rfl, ?_⟩
          rw [e2]
          exact q _ (I.hok.fresh (Nat.le_succ _))
      · exact h.elim
    · exact h.elim
  · exact h.elim
end
end CB

set_option Elab.async false
set_option linter.all false
set_option maxRecDepth 100000
set_option maxHeartbeats 4000000
namespace CB
open PySem PySem.Spec PyProof.Rows L2 PySem.SeqAt

/-! ### what the top has left -/
structure Tx (fa : List He.Fa) (fn : List He.DefD) (K : PySem.W.Frag) (mg : Str → Option Value) : Prop where
  says : He.SaysD fa fn K
  ns : ∃ h : Heap, K.In h ∧ h.Ns mainGlobals mg
section
variable {fa : List He.Fa} {fn : List He.DefD} {K : PySem.W.Frag} {mg : Str → Option Value}
theorem Tx.free (T : Tx fa fn K mg) (i : Nat) {x : Str} (h : fa[i]? = some (.free x) := by rfl) : mg x = none := let ⟨_, a, b⟩ := T.ns; He.free_ok a b (T.says.fact i h)
theorem Tx.glo (T : Tx fa fn K mg) (i : Nat) {x : Str} (h : fa[i]? = some (.glo x) := by rfl) : mg x = some (.ref (He.ga K x)) := let ⟨_, a, b⟩ := T.ns; He.glo_ok a b (T.says.fact i h)
theorem Tx.int (T : Tx fa fn K mg) (i : Nat) {x : Str} {n : Int} (h : fa[i]? = some (.int x n) := by rfl) : ∃ t, mg x = some (.int n t) := let ⟨_, a, b⟩ := T.ns; He.int_ok a b (T.says.fact i h)
theorem Tx.str (T : Tx fa fn K mg) (i : Nat) {x z : Str} (h : fa[i]? = some (.str x z) := by rfl) : ∃ t, mg x = some (.str z t) := let ⟨_, a, b⟩ := T.ns; He.str_ok a b (T.says.fact i h)
theorem Tx.exc (T : Tx fa fn K mg) (i : Nat) {x : Str} (h : fa[i]? = some (.exc x) := by rfl) : PySem.W.excIn K (He.ga K x) He.veBase "ValueError.__new__" = true ∧ PySem.W.keepIn K (.ref (He.ga K x)) = true ∧ PySem.W.subIn K (.ref (He.ga K x)) (.type "BaseException") = some true ∧
    PySem.W.typeIn K (.ref (He.ga K x)) = some (.type "type") := He.exc_ok (T.says.fact i h)
end
section
variable {fa : List He.Fa} {fn : List He.DefD} {P : Program} {w : World} {K : PySem.W.Frag} {mg : Str → Option Value} {base : Heap} {ca : Nat → Addr}
theorem hu_70 {A : Around} {k : Nat} (hr : Room k A) : A.units + 70 < cLine := by have := hr.un; omega
theorem mk_cal (T : Tx fa fn K mg) (i j : Nat) {x : Str} {st : Stmt} {N ps : List Str} {lv ar n : Nat} {code : SC} (S : FnScope N ps (defScope st)) (hd : fn[i]? = some ⟨(x, none), x, x, defArgs st, defBody st, defScope st, [], []⟩) (hj : fa[j]? = some (.glo x)) (har : ps.length = ar) (hn : N.length = n)
    (hb : ∀ (kV doc pm : Value) (an : Option Addr) (cdv ct : Value) (us : List Value), us.length = ps.length → bindArgs (PySem.W.fnOf x x (defArgs st) (defBody st) (defScope st) .none kV doc pm an cdv ct) ⟨us, []⟩ = pure (ps.zip us))
    (body : ∀ (k : Ctx) (f : Addr) (cdv : Value) (A : Around) (outer : List PySem.Env) (s : Shared) (H : Hp) (E : XK), Room lv (A.deeper (envOfC x (defScope st) s.heap.objs.size f cdv)) →
      Ss? ca k (cxOf (L2.CX P w) P w K mg base N x (defScope st) f cdv A outer s H E) (fun c d _ H => E c d H) (defBody st) code) : Cal P w K mg base ca x ps (mkFn ar n code) (lv + 1) := by
  obtain ⟨fd, F⟩ := T.says.def_ i hd
  refine ⟨⟨He.ga K x, fd, ?_, T.glo j hj, F.kp, FunD.bindsN F hb⟩⟩
  subst har hn
  refine FunD.ok F S (fun vs H Q E h => ?_) (fun cdv A outer s H vs Q E hr h => ?_)
  · obtain ⟨k, μ, m, ds, hm, r, hl, h⟩ := h
    rw [← r.len]; exact hl
  · exact fn_run (fun k => body k _ cdv A outer s H E hr) h
end
end CB

set_option Elab.async false
set_option linter.all false
set_option maxRecDepth 100000
set_option maxHeartbeats 4000000
namespace CB
open PySem PySem.Spec PyProof.Rows L2 PySem.SeqAt

/-! ### the head: the top's facts, no list among them -/
def noL (o : Obj) : Bool := !(o.cls == .type "list")
def asN (g : Addr → Option Obj) (n : Nat) : List Addr := (He.asD g n).filter fun a => match g a with | some o => noL o | none => true
def obsN (n : Nat) (fa : List He.Fa) (fn : List He.DefD) (g : Addr → Option Obj) : He.AlD := He.obsD fa fn (He.frG g (asN g n))
theorem frG_mem {g : Addr → Option Obj} {a : Addr} {o : Obj} : ∀ as : List Addr, (He.frG g as).lookup a = some o → a ∈ as
  | [], e => nomatch (show (none : Option Obj) = some o from e)
  | b :: r, e => by
    unfold He.frG at e
    rw [List.filterMap_cons] at e
    cases hb : g b with
    | none =>
      rw [hb] at e
      exact List.mem_cons_of_mem _ (frG_mem r e)
    | some u =>
      rw [hb] at e
      simp only [Option.map_some, List.lookup_cons] at e
      by_cases q : a = b
      · subst q; exact List.mem_cons_self
      · rw [beq_eq_false_iff_ne.mpr q] at e
        exact List.mem_cons_of_mem _ (frG_mem r e)
theorem asN_no {g : Addr → Option Obj} {n : Nat} {a : Addr} {o : Obj} (e : (He.frG g (asN g n)).lookup a = some o) : o.cls ≠ .type "list" := by
  have h1 := frG_mem _ e
  have h2 := He.frG_at _ e
  have h3 := (List.mem_filter.mp h1).2
  rw [h2] at h3
  intro z
  have : noL o = true := h3
  unfold noL at this
  rw [z] at this
  simp at this
structure Fx (fa : List He.Fa) (fn : List He.DefD) (K : PySem.W.Frag) : Prop where
  says : He.SaysD fa fn K
  no : ∀ (a : Addr) (o : Obj), K.lookup a = some o → o.cls ≠ .type "list"
def hookN (n : Nat) (fa : List He.Fa) (fn : List He.DefD) : PySem.W.Hook where
  α := He.AlD
  obs := fun s => obsN n fa fn s.heap.get?
  val := fun _ => He.valD fn
  says := fun _ h => ∃ K : PySem.W.Frag, K.In h ∧ Fx fa fn K
  of := fun _ _ e => ⟨_, He.frG_in, e, fun _ _ => asN_no⟩
  keeps := fun _ _ _ ⟨K, hK, c⟩ k => ⟨K, PySem.W.Frag.In.keeps hK k, c⟩
theorem obsN_eq {n : Nat} {fa : List He.Fa} {fn : List He.DefD} {g : Addr → Option Obj} {s : Shared} (h : ∀ a, g a = s.heap.get? a) : obsN n fa fn g = (hookN n fa fn).obs s := by
  have e : g = s.heap.get? := funext h
  rw [e] <;> rfl
/-- the law's own promise from its code's run -/
theorem law_sp {K : PySem.W.Frag} {ca : Nat → Addr} {f : FC} {H : Hp} {a : Addr} {ns : List Int} (no : ∀ (a : Addr) (o : Obj), K.lookup a = some o → o.cls ≠ .type "list") (hO : Only H) (hS : SqL K H a (ns.map V.int)) (hrun : ∃ m, f [] [.ref 0] [.frz (ns.map D.int)] = .ok (.bl true) m) :
    spF K ca 1 f [.ref a] H (fun v _ => v = .bl true) fun _ _ _ => False := by
  obtain ⟨m, hrun⟩ := hrun
  have hf : ∃ o, H a = some (.frz o (.lst (ns.map V.int))) := by
    rcases hS with (h | ⟨o, h⟩) | ⟨o, its, n, e, c, _⟩
    · rcases hO a with z | ⟨o, xs, z⟩
      · rw [z] at h; cases h
      · rw [z] at h; cases h
    · exact ⟨o, h⟩
    · exact absurd c (no a o e)
  obtain ⟨o, hf⟩ := hf
  have rep : ∀ ns : List Int, RepVs K [a] H (ns.map D.int) (ns.map V.int) := fun ns => by
    induction ns with
    | nil => exact .nil
    | cons n ns ih => exact .cons .int ih
  refine ⟨[], [a], [.frz (ns.map D.int)], [.ref 0], ⟨rfl, by simp, fun i b c h1 h2 => ?_, fun b hb => absurd hb (by simp), fun b hb => absurd hb (by simp)⟩, .cons (.ref rfl) .nil, rfl, ?_⟩
  · cases i with
    | zero =>
      simp at h1 h2
      subst h1 h2
      exact ⟨_, o, hf, rep ns⟩
    | succ i => simp at h1
  · rw [hrun]
    intro x H' μ' e hm r
    cases r
    rfl
theorem cx0 {P : Program} {w : World} {K : PySem.W.Frag} {mg : Str → Option Value} {base : Heap} {k : Nat} {f : Addr} {fd : FuncData} {ps : List Str} {sp : Sp} (F : FnOk P w K mg base (L2.CX P w) k f fd ps sp) : FnOk P w K mg base L2.CX0 k f fd ps (fun vs H Q _ => sp vs H Q fun _ _ _ => False) :=
  ⟨fun vs H Q _ h => F.len vs H Q _ h, fun A outer s H args us vs Q E hr e0 hb hv h => codeAny_mono (F.run A outer s H args us vs Q _ hr e0 hb hv h) fun r s' hq => by
    cases r with
    | ok fl => cases fl <;> exact hq
    | error e =>
      obtain ⟨_, _, _, _, _, _, _, _, _, _, _, _, z⟩ := hq
      exact z.elim⟩
section
variable {fa : List He.Fa} {fn : List He.DefD} {P : Program} {w : World} {K : PySem.W.Frag} {mg : Str → Option Value} {base : Heap} {ca : Nat → Addr}
theorem mk_fn {x : Str} {st : Stmt} {N ps : List Str} {lv ar n : Nat} {code : SC} {a : Addr} {fd : FuncData} (F : FunD K x x (defArgs st) (defBody st) (defScope st) [] [] a fd) (S : FnScope N ps (defScope st)) (har : ps.length = ar) (hn : N.length = n)
    (body : ∀ (k : Ctx) (f : Addr) (cdv : Value) (A : Around) (outer : List PySem.Env) (s : Shared) (H : Hp) (E : XK), Room lv (A.deeper (envOfC x (defScope st) s.heap.objs.size f cdv)) →
      Ss? ca k (cxOf (L2.CX P w) P w K mg base N x (defScope st) f cdv A outer s H E) (fun c d _ H => E c d H) (defBody st) code) : FnOk P w K mg base (L2.CX P w) (lv + 1) a fd ps (spF K ca ps.length (mkFn ar n code)) := by
  subst har hn
  refine FunD.ok F S (fun vs H Q E h => ?_) (fun cdv A outer s H vs Q E hr h => ?_)
  · obtain ⟨k, μ, m, ds, hm, r, hl, h⟩ := h
    rw [← r.len]; exact hl
  · exact fn_run (fun k => body k _ cdv A outer s H E hr) h
end
end CB

set_option Elab.async false
set_option linter.all false
set_option maxRecDepth 100000
set_option maxHeartbeats 4000000
namespace CB
open PySem PySem.Spec PyProof.Rows L2 PySem.SeqAt

/-! ### the frame: what a call is not told of stays -/
open Classical in
noncomputable def hide (H : Hp) (hid : Addr → Prop) : Hp := fun b => if hid b then none else H b
open Classical in
noncomputable def merge (H : Hp) (hid : Addr → Prop) (H' : Hp) : Hp := fun b => if hid b then H b else H' b
structure Hid (H : Hp) (hid : Addr → Prop) : Prop where
  got : ∀ b, hid b → ∃ o, H b = some o ∧ (∀ xs, o ≠ .tup xs) ∧ (∀ ps, o ≠ .tbl ps) ∧ ∀ u xs, o ≠ .frz u (.tup xs)
  own1 : ∀ b a, H b = some (.own a) → hid b → hid a
  own2 : ∀ b a, H b = some (.own a) → hid a → (∀ x, H a ≠ some (.own x)) → hid b
theorem hide_in {H : Hp} {hid : Addr → Prop} {b : Addr} (h : hid b) : hide H hid b = none := if_pos h
theorem hide_out {H : Hp} {hid : Addr → Prop} {b : Addr} (h : ¬ hid b) : hide H hid b = H b := if_neg h
theorem merge_in {H H' : Hp} {hid : Addr → Prop} {b : Addr} (h : hid b) : merge H hid H' b = H b := if_pos h
theorem merge_out {H H' : Hp} {hid : Addr → Prop} {b : Addr} (h : ¬ hid b) : merge H hid H' b = H' b := if_neg h
theorem hide_some {H : Hp} {hid : Addr → Prop} {b : Addr} {o : HO} (h : hide H hid b = some o) : ¬ hid b ∧ H b = some o := by
  by_cases z : hid b
  · rw [hide_in z] at h; cases h
  · rw [hide_out z] at h; exact ⟨z, h⟩
theorem hide_none {H : Hp} {hid : Addr → Prop} {b : Addr} (h : H b = none) : hide H hid b = none := by
  by_cases z : hid b
  · exact hide_in z
  · rw [hide_out z]; exact h
section
variable {P : Program} {w : World} {H H' : Hp} {hid : Addr → Prop} {h h' : Heap}
theorem ObjOk.got {a : Addr} {o : HO} (x : ObjOk P w H h a o) : ∃ u, h.get? a = some u := by
  cases o with
  | lst xs => obtain ⟨_, _, _, _, e⟩ := x; exact ⟨_, e⟩
  | tup xs => obtain ⟨_, _, _, o, e, _⟩ := x; exact ⟨_, e⟩
  | dK kvs => obtain ⟨_, _, _, _, o, _, _, e, _⟩ := x; exact ⟨_, e⟩
  | dT kvs => obtain ⟨_, _, _, _, o, _, _, e, _⟩ := x; exact ⟨_, e⟩
  | set S n => obtain ⟨o, _, _, _, e, _⟩ := x; exact ⟨_, e⟩
  | ins C dx fs => obtain ⟨_, _, _, e, _⟩ := x; exact ⟨_, e⟩
  | own y => obtain ⟨_, e⟩ := x; exact ⟨_, e⟩
  | xd fs => obtain ⟨_, ⟨_, _, _, e, _⟩, _⟩ := x; exact ⟨_, e⟩
  | rng lo hi => obtain ⟨_, _, _, e⟩ := x; exact ⟨_, e⟩
  | frz ob u => obtain ⟨e, _⟩ := x; exact ⟨_, e⟩
  | tbl ps => exact ⟨_, show h.get? a = some _ from x⟩
  | met f y => exact ⟨_, show h.get? a = some _ from x⟩
  | ext φ => obtain ⟨_, ⟨_, e⟩, _⟩ := x; exact ⟨_, e⟩
theorem hide_tup (hh : Hid H hid) {b : Addr} {xs : List V} (e : H b = some (.tup xs)) : hide H hid b = some (.tup xs) := by
  by_cases hb : hid b
  · obtain ⟨o, q, n, _⟩ := hh.got b hb
    rw [e] at q; cases q; exact absurd rfl (n xs)
  · rw [hide_out hb]; exact e
theorem hide_hok (hh : Hid H hid) (ok : HOk P w H h) : HOk P w (hide H hid) h := fun a o e => by
  obtain ⟨na, e'⟩ := hide_some e
  refine (ok a o e').stay (fun _ _ _ q => q) (fun b q => ?_) fun b xs q => hide_tup hh q
  rw [hide_out fun z => na (hh.own1 b a q z)]
  exact q
theorem hid_get (hh : Hid H hid) (ok : HOk P w H h) {b : Addr} (hb : hid b) : ∃ u, h.get? b = some u := by
  obtain ⟨o, e, _⟩ := hh.got b hb
  exact ObjOk.got (ok b o e)
theorem merge_hok {fs : List Addr} (hh : Hid H hid) (ok : HOk P w H h) (hf : ∀ b ∈ fs, H b = none) (ok' : HOk P w H' h') (keep : ∀ b o, h.get? b = some o → hide H hid b = none → b ∉ fs → h'.get? b = some o) (free : ∀ b o, h.get? b = some o → hide H hid b = none → H' b = none)
    (tups : ∀ b xs, hide H hid b = some (.tup xs) → H' b = some (.tup xs)) : HOk P w (merge H hid H') h' := fun a o e => by
  have nf : ∀ b, hid b → b ∉ fs := fun b hb hm => by
    obtain ⟨u, q, _⟩ := hh.got b hb
    rw [hf b hm] at q; cases q
  have hn : ∀ b, hid b → H' b = none := fun b hb => by
    obtain ⟨ob, eo⟩ := hid_get hh ok hb
    exact free b ob eo (hide_in hb)
  have hk : ∀ b u, hid b → h.get? b = some u → h'.get? b = some u := fun b u hb q => keep b u q (hide_in hb) (nf b hb)
  by_cases ha : hid a
  · rw [merge_in ha] at e
    by_cases ho : ∃ x, o = .own x
    · obtain ⟨x, rfl⟩ := ho
      obtain ⟨u, eu⟩ := hid_get hh ok ha
      exact ⟨u, hk a u ha eu⟩
    · have na : ∀ x, H a ≠ some (.own x) := fun x z => ho ⟨x, by rw [e] at z; exact Option.some.inj z⟩
      refine (ok a o e).stay (fun b u hb q => ?_) (fun b q => ?_) fun b xs q => ?_
      · rcases hb with rfl | hb
        · exact hk b u ha q
        · exact hk b u (hh.own2 b a hb ha na) q
      · rw [merge_in (hh.own2 b a q ha na)]; exact q
      · have z : ¬ hid b := fun z => by
          obtain ⟨o, q', n, _⟩ := hh.got b z
          rw [q] at q'; cases q'; exact n xs rfl
        rw [merge_out z]
        exact tups b xs (hide_tup hh q)
  · rw [merge_out ha] at e
    refine (ok' a o e).stay (fun _ _ _ q => q) (fun b q => ?_) fun b xs q => ?_
    · by_cases hb : hid b
      · rw [hn b hb] at q; cases q
      · rw [merge_out hb]; exact q
    · by_cases hb : hid b
      · rw [hn b hb] at q; cases q
      · rw [merge_out hb]; exact q
theorem hid_not (hh : Hid H hid) {b : Addr} (n : H b = none) : ¬ hid b := fun z => by obtain ⟨o, q, _⟩ := hh.got b z; rw [n] at q; cases q
theorem hid_ntup (hh : Hid H hid) {b : Addr} {xs : List V} (e : H b = some (.tup xs)) : ¬ hid b := fun z => by obtain ⟨o, q, n, _⟩ := hh.got b z; rw [e] at q; cases q; exact n xs rfl
theorem hid_ntbl (hh : Hid H hid) {b : Addr} {xs : Array Value} (e : H b = some (.tbl xs)) : ¬ hid b := fun z => by obtain ⟨o, q, _, n, _⟩ := hh.got b z; rw [e] at q; cases q; exact n xs rfl
theorem merge_un {fs : List Addr} (hh : Hid H hid) (u : Un fs [] (hide H hid) H' h h') : Un fs [] H (merge H hid H') h h' where
  keep := fun b o e n hb hx => u.keep b o e (hide_none n) hb hx
  slot := fun b o e n hb hx => u.slot b o e (hide_none n) hb hx
  free := fun b o e n hx => by
    rw [merge_out (hid_not hh n)]
    exact u.free b o e (hide_none n) hx
  there := fun b o e hx => u.there b o e hx
  tups := fun b xs e => by
    rw [merge_out (hid_ntup hh e)]
    exact u.tups b xs (hide_tup hh e)
  frzs := fun b o xs e => by
    by_cases z : hid b
    · rw [merge_in z]; exact e
    · rw [merge_out z]; exact u.frzs b o xs (by rw [hide_out z]; exact e)
  tbls := fun b ps e => by
    have := hid_ntbl hh e
    rw [merge_out this]
    exact u.tbls b ps (by rw [hide_out this]; exact e)
theorem merge_ub {fs : List Addr} {B : Heap} (hh : Hid H hid) (u : UB fs (hide H hid) H' h B h') : UB fs H (merge H hid H') h B h' where
  keep := fun b o e n hb => u.keep b o e (hide_none n) hb
  slot := u.slot
  free := fun b o e n => by
    rw [merge_out (hid_not hh n)]
    exact u.free b o e (hide_none n)
  there := u.there
  tups := fun b xs e => by
    rw [merge_out (hid_ntup hh e)]
    exact u.tups b xs (hide_tup hh e)
  frzs := fun b o xs e => by
    by_cases z : hid b
    · rw [merge_in z]; exact e
    · rw [merge_out z]; exact u.frzs b o xs (by rw [hide_out z]; exact e)
  tbls := fun b ps e => by
    have := hid_ntbl hh e
    rw [merge_out this]
    exact u.tbls b ps (by rw [hide_out this]; exact e)
/-- a def told of less -/
theorem frame {K : PySem.W.Frag} {mg : Str → Option Value} {base : Heap} {k : Nat} {f : Addr} {fd : FuncData} {ps : List Str} {sp : Sp} (F : FnOk P w K mg base (L2.CX P w) k f fd ps sp) :
    FnOk P w K mg base (L2.CX P w) k f fd ps (fun vs H Q E => ∃ hid, Hid H hid ∧ sp vs (hide H hid) (fun v H' => (∀ b, hid b → H' b = none) → Q v (merge H hid H')) fun c d H' => (∀ b, hid b → H' b = none) → E c d (merge H hid H')) := by
  refine ⟨fun vs H Q E ⟨hid, _, h⟩ => F.len _ _ _ _ h, fun A outer s H args us vs Q E hr e0 hb hv ⟨hid, hh, h⟩ => ?_⟩
  have e1 : Env0 P w K mg base A outer s (hide H hid) := ⟨e0.frames, e0.mod, fun b o e => ⟨(e0.bs b o e).1, hide_none (e0.bs b o e).2⟩, e0.bsz, e0.funs, fun b hb => hide_none (e0.frf b hb), hide_hok hh e0.hok, e0.bare⟩
  refine codeAny_mono (F.run A outer s (hide H hid) args us vs _ _ hr e1 hb hv h) fun r s' hq => ?_
  cases r with
  | error e =>
    obtain ⟨a, B, H', cls, d, e2, fl, ok, ub, na, os, ag, q⟩ := hq
    refine ⟨a, B, merge H hid H', cls, d, e2, fl, merge_hok hh e0.hok e0.frf ok (fun b o q n hb => ub.keep b o q n hb) (fun b o q n => ub.free b o q n) ub.tups, merge_ub hh ub, ?_, os, ag, q fun b hb => ?_⟩
    · by_cases z : hid a
      · exfalso
        obtain ⟨ob, eo⟩ := hid_get hh e0.hok z
        have h1 := ub.keep a ob eo (hide_in z) (fun hm => hid_not hh (e0.frf a hm) z)
        rw [fl.2.1] at h1
        cases h1
      · rw [merge_out z]; exact na
    · obtain ⟨ob, eo⟩ := hid_get hh e0.hok hb
      exact ub.free b ob eo (hide_in hb)
  | ok fl =>
    cases fl with
    | ret u =>
      obtain ⟨v, H', os, ag, un, ok, r, q⟩ := hq
      refine ⟨v, merge H hid H', os, ag, merge_un hh un, merge_hok hh e0.hok e0.frf ok (fun b o q n hb => un.keep b o q n hb (by simp)) (fun b o q n => un.free b o q n (by simp)) un.tups, r, q fun b hb => ?_⟩
      obtain ⟨ob, eo⟩ := hid_get hh e0.hok hb
      exact un.free b ob eo (hide_in hb) (by simp)
    | next => exact hq
    | brk => exact hq
    | cont => exact hq
end

/-! ### a call that is told of its own lists alone -/
def idx (l : List Nat) (i : Nat) : Nat → Option Nat
  | n => match l with
    | [] => none
    | j :: r => if Nat.beq j i then some n else idx r i (n + 1)
/-- arguments: each a datum without lists, or a list -/
def argsF : List D → List Nat → Option (List D × List Nat)
  | [], acc => some ([], acc)
  | .ref i :: ds, acc => match idx acc i 0 with
    | some j => (match argsF ds acc with | some (es, l) => some (.ref j :: es, l) | none => none)
    | none => (match argsF ds (acc ++ [i]) with | some (es, l) => some (.ref acc.length :: es, l) | none => none)
  | d :: ds, acc => if d.lo 0 then (match argsF ds acc with | some (es, l) => some (d :: es, l) | none => none) else none
def cellF (m : Mem) (i : Nat) : Option Cell := match nth m i with
  | some (.lst ds) => if D.loL 0 ds then some (.lst ds) else none
  | some (.frz ds) => if D.loL 0 ds then some (.frz ds) else none
  | _ => none
def cellsF (m : Mem) : List Nat → Option Mem
  | [] => some []
  | i :: l => match cellF m i, cellsF m l with
    | some c, some r => some (c :: r)
    | _, _ => none
/-- the lists are told back -/
def backF (m' : Mem) : List Nat → Nat → Mem → Option Mem
  | [], _, m => some m
  | i :: l, j, m => match nth m' j with
    | some (.lst ds) => if D.loL 0 ds then backF m' l (j + 1) (Mem.put m i (.lst ds)) else none
    | some (.frz ds) => if D.loL 0 ds then backF m' l (j + 1) (Mem.put m i (.frz ds)) else none
    | _ => none
def resF (l : List Nat) (m' : Mem) (d : D) (m : Mem) : Option (R D) :=
  if d.lo 0 then some (.ok d m) else match d with
    | .ref j => (match nth l j with
      | some i => some (.ok (.ref i) m)
      | none => match nth m' j with
        | some (.lst ds) => if D.loL 0 ds then some (.ok (.ref m.length) (m ++ [.lst ds])) else none
        | _ => none)
    | _ => none
def footF (f : FC) (xs : List D) (m : Mem) : Option (R D) := match argsF xs [] with
  | none => none
  | some (ys, l) => match cellsF m l with
    | none => none
    | some mc => match f [] ys mc with
      | .ok d m' => (match backF m' l 0 m with
        | some m2 => resF l m' d m2
        | none => none)
      | .exc x m' => (match x.fld with
        | none => (match backF m' l 0 m with
          | some m2 => some (.exc x m2)
          | none => none)
        | some p => if p.2.lo 0 then (match backF m' l 0 m with
          | some m2 => some (.exc x m2)
          | none => none) else none)
      | .bad => none
def eCallF (f : FC) (as : AC) : EC := fun k ρ m => (as k ρ m).bind fun xs m => match footF f xs m with
  | some r => r
  | none => f k xs m

mutual
theorem lo_mono {a b : Nat} (h : a ≤ b) : ∀ {d : D}, d.lo a = true → d.lo b = true
  | .non, _ => rfl
  | .bl _, _ => rfl
  | .int _, _ => rfl
  | .str _, _ => rfl
  | .tup ds, e => loL_mono h e
  | .ref i, e => by
    have e : Nat.blt i a = true := e
    show Nat.blt i b = true
    rw [Nat.blt_eq] at e ⊢
    omega
theorem loL_mono {a b : Nat} (h : a ≤ b) : ∀ {ds : List D}, D.loL a ds = true → D.loL b ds = true
  | [], _ => rfl
  | d :: ds, e => by
    have e : (d.lo a && D.loL a ds) = true := e
    rw [Bool.and_eq_true] at e
    show (d.lo b && D.loL b ds) = true
    rw [lo_mono h e.1, loL_mono h e.2]; rfl
end
section
variable {K : PySem.W.Frag} {ca : Nat → Addr} {k : Ctx} {μ μ' : List Addr} {H H' : Hp} {m m' : Mem} {hid : Addr → Prop}
theorem pure_rep {ds : List D} {vs : List V} (h : RepVs K μ H ds vs) (hl : D.loL 0 ds = true) (t : ∀ a xs, SqT K H a xs → SqT K H' a xs) : RepVs K μ' H' ds vs :=
  (RepVs.cut (μ' := []) (n := 0) (fun i a h => absurd h (Nat.not_lt_zero i)) h hl).mono ⟨fun i a h => by simp at h, t⟩
theorem pure_repV {d : D} {v : V} (h : RepV K μ H d v) (hl : d.lo 0 = true) (t : ∀ a xs, SqT K H a xs → SqT K H' a xs) : RepV K μ' H' d v :=
  (RepV.cut (μ' := []) (n := 0) (fun i a h => absurd h (Nat.not_lt_zero i)) h hl).mono ⟨fun i a h => by simp at h, t⟩
theorem hide_sqt (hh : Hid H hid) {a : Addr} {xs : List V} (h : SqT K H a xs) : SqT K (hide H hid) a xs := by
  rcases h with (h | ⟨o, h⟩) | h
  · exact .inl (.inl (hide_tup hh h))
  · refine .inl (.inr ⟨o, ?_⟩)
    rw [hide_out fun z => by
      obtain ⟨u, q, _, _, n⟩ := hh.got a z
      rw [h] at q; cases q; exact n _ _ rfl]
    exact h
  · exact .inr h
theorem merge_sqt (hn : ∀ b, hid b → H' b = none) {a : Addr} {xs : List V} (h : SqT K H' a xs) : SqT K (merge H hid H') a xs := by
  have nh : ∀ {u : HO}, H' a = some u → ¬ hid a := fun e z => by rw [hn a z] at e; cases e
  rcases h with (h | ⟨o, h⟩) | h
  · exact .inl (.inl (by rw [merge_out (nh h)]; exact h))
  · exact .inl (.inr ⟨o, by rw [merge_out (nh h)]; exact h⟩)
  · exact .inr h
theorem idx_some {i j : Nat} : ∀ {l : List Nat} {n : Nat}, idx l i n = some j → n ≤ j ∧ l[j - n]? = some i
  | [], _, h => nomatch h
  | a :: r, n, h => by
    unfold idx at h
    dsimp only at h
    split at h
    · rename_i e
      cases h
      rw [Nat.sub_self]
      exact ⟨Nat.le_refl _, by simp [Nat.eq_of_beq_eq_true e]⟩
    · obtain ⟨h1, h2⟩ := idx_some (l := r) h
      refine ⟨by omega, ?_⟩
      have : j - n = (j - (n + 1)) + 1 := by omega
      rw [this]
      simpa using h2
theorem idx_none {i : Nat} : ∀ {l : List Nat} {n : Nat}, idx l i n = none → i ∉ l
  | [], _, _ => by simp
  | a :: r, n, h => by
    unfold idx at h
    dsimp only at h
    split at h
    · cases h
    · rename_i e
      intro hm
      rcases List.mem_cons.mp hm with z | z
      · exact e (by rw [z]; exact Nat.beq_refl _)
      · exact idx_none (l := r) h z
def ArgsOk (K : PySem.W.Frag) (μ : List Addr) (H : Hp) (xs : List D) (acc : List Nat) (ys : List D) (l : List Nat) : Prop := ys.length = xs.length ∧ l.Nodup ∧ (∃ r, l = acc ++ r) ∧
    ∀ {vs : List V} {μc : List Addr} {H' : Hp}, RepVs K μ H xs vs → (∀ (j i : Nat) (a : Addr), l[j]? = some i → μ[i]? = some a → μc[j]? = some a) → (∀ a xs, SqT K H a xs → SqT K H' a xs) → RepVs K μc H' ys vs
theorem args_pure {d : D} {ds : List D} {acc : List Nat} {ys : List D} {l : List Nat} (hd : argsF (d :: ds) acc = if d.lo 0 then (match argsF ds acc with | some (es, l) => some (d :: es, l) | none => none) else none) (h : argsF (d :: ds) acc = some (ys, l)) (ih : ∀ es l', argsF ds acc = some (es, l') → ArgsOk K μ H ds acc es l') : ArgsOk K μ H (d :: ds) acc ys l := by
  rw [hd] at h
  split at h
  · rename_i hl
    split at h
    · rename_i es l' he
      cases h
      obtain ⟨h1, h2, h3, h4⟩ := ih _ _ he
      refine ⟨by simp [h1], h2, h3, fun rv hc ht => ?_⟩
      cases rv with
      | cons rv rs => exact .cons (pure_repV rv hl ht) (h4 rs hc ht)
    · cases h
  · cases h
theorem argsF_ok : ∀ {xs : List D} {acc : List Nat} {ys : List D} {l : List Nat}, argsF xs acc = some (ys, l) → acc.Nodup → ArgsOk K μ H xs acc ys l
  | [], acc, ys, l, h, nd => by
    cases h
    exact ⟨rfl, nd, ⟨[], by simp⟩, fun r _ _ => by cases r; exact .nil⟩
  | .ref i :: ds, acc, ys, l, h, nd => by
    unfold argsF at h
    split at h
    · rename_i j hj
      split at h
      · rename_i es l' he
        cases h
        obtain ⟨h1, h2, ⟨r, h3⟩, h4⟩ := argsF_ok he nd
        refine ⟨by simp [h1], h2, ⟨r, h3⟩, fun rv hc ht => ?_⟩
        cases rv with
        | cons rv rs =>
          cases rv with
          | ref g =>
            refine .cons (.ref (hc j i _ ?_ g)) (h4 rs hc ht)
            have q := (idx_some hj).2
            rw [Nat.sub_zero] at q
            rw [h3, List.getElem?_append_left]
            · exact q
            · rcases Nat.lt_or_ge j acc.length with z | z
              · exact z
              · rw [List.getElem?_eq_none z] at q; cases q
      · cases h
    · rename_i hj
      split at h
      · rename_i es l' he
        cases h
        have nd' : (acc ++ [i]).Nodup := by
          rw [List.nodup_append]
          refine ⟨nd, by simp, fun a ha b hb => ?_⟩
          rw [List.mem_singleton] at hb
          subst hb
          exact fun z => idx_none hj (z ▸ ha)
        obtain ⟨h1, h2, ⟨r, h3⟩, h4⟩ := argsF_ok he nd'
        refine ⟨by simp [h1], h2, ⟨[i] ++ r, by rw [h3, List.append_assoc]⟩, fun rv hc ht => ?_⟩
        cases rv with
        | cons rv rs =>
          cases rv with
          | ref g =>
            refine .cons (.ref (hc acc.length i _ ?_ g)) (h4 rs hc ht)
            rw [h3, List.append_assoc, List.getElem?_append_right (Nat.le_refl _)]
            simp
      · cases h
  | .non :: ds, acc, ys, l, h, nd => args_pure rfl h fun es l' e => argsF_ok e nd
  | .bl _ :: ds, acc, ys, l, h, nd => args_pure rfl h fun es l' e => argsF_ok e nd
  | .int _ :: ds, acc, ys, l, h, nd => args_pure rfl h fun es l' e => argsF_ok e nd
  | .str _ :: ds, acc, ys, l, h, nd => args_pure rfl h fun es l' e => argsF_ok e nd
  | .tup ts :: ds, acc, ys, l, h, nd => args_pure rfl h fun es l' e => argsF_ok e nd
theorem cellsF_ok : ∀ {l : List Nat} {mc : Mem}, cellsF m l = some mc → mc.length = l.length ∧ ∀ (j i : Nat), l[j]? = some i → ∃ c, mc[j]? = some c ∧ m[i]? = some c ∧ ((∃ ds, c = .lst ds ∧ D.loL 0 ds = true) ∨ ∃ ds, c = .frz ds ∧ D.loL 0 ds = true)
  | [], mc, h => by cases h; exact ⟨rfl, fun j i e => by simp at e⟩
  | a :: l, mc, h => by
    unfold cellsF at h
    split at h
    · rename_i c r hc hr
      cases h
      obtain ⟨h1, h2⟩ := cellsF_ok hr
      refine ⟨by simp [h1], fun j i e => ?_⟩
      cases j with
      | zero =>
        simp at e
        subst e
        refine ⟨c, rfl, ?_⟩
        unfold cellF at hc
        rw [nth_eq] at hc
        split at hc
        · rename_i ds e
          split at hc
          · cases hc; exact ⟨e, .inl ⟨ds, rfl, by assumption⟩⟩
          · cases hc
        · rename_i ds e
          split at hc
          · cases hc; exact ⟨e, .inr ⟨ds, rfl, by assumption⟩⟩
          · cases hc
        · cases hc
      | succ j => exact h2 j i (by simpa using e)
    · cases h
theorem backF_ok : ∀ {l : List Nat} {j : Nat} {m m2 : Mem}, backF m' l j m = some m2 → l.Nodup → m2.length = m.length ∧ (∀ i, i ∉ l → m2[i]? = m[i]?) ∧ ∀ (n i : Nat), l[n]? = some i → i < m.length → ∃ c, m2[i]? = some c ∧ m'[j + n]? = some c ∧ ((∃ ds, c = .lst ds ∧ D.loL 0 ds = true) ∨ ∃ ds, c = .frz ds ∧ D.loL 0 ds = true)
  | [], j, m, m2, h, nd => by cases h; exact ⟨rfl, fun _ _ => rfl, fun n i e => by simp at e⟩
  | a :: l, j, m, m2, h, nd => by
    have nd' := List.nodup_cons.mp nd
    have key : ∀ c : Cell, m'[j]? = some c → ((∃ ds, c = .lst ds ∧ D.loL 0 ds = true) ∨ ∃ ds, c = .frz ds ∧ D.loL 0 ds = true) → backF m' l (j + 1) (Mem.put m a c) = some m2 → m2.length = m.length ∧ (∀ i, i ∉ a :: l → m2[i]? = m[i]?) ∧ ∀ (n i : Nat), (a :: l)[n]? = some i → i < m.length → ∃ c, m2[i]? = some c ∧ m'[j + n]? = some c ∧ ((∃ ds, c = .lst ds ∧ D.loL 0 ds = true) ∨ ∃ ds, c = .frz ds ∧ D.loL 0 ds = true) := fun c hc hp hb => by
      obtain ⟨h1, h2, h3⟩ := backF_ok hb nd'.2
      refine ⟨by rw [h1]; simp [Mem.put], fun i hi => ?_, fun n i e hi => ?_⟩
      · have hn : a ≠ i := fun z => hi (by rw [z]; exact List.mem_cons_self)
        rw [h2 i fun z => hi (List.mem_cons_of_mem _ z)]
        exact List.getElem?_set_ne hn
      · cases n with
        | zero =>
          simp at e
          subst e
          refine ⟨c, ?_, hc, hp⟩
          rw [h2 a nd'.1]
          exact List.getElem?_set_self hi
        | succ n =>
          obtain ⟨c', g1, g2, g3⟩ := h3 n i (by simpa using e) (by simpa [Mem.put] using hi)
          exact ⟨c', g1, by rw [show j + (n + 1) = j + 1 + n by omega]; exact g2, g3⟩
    unfold backF at h
    rw [nth_eq] at h
    split at h
    · rename_i ds e
      split at h
      · exact key _ e (.inl ⟨ds, rfl, by assumption⟩) h
      · cases h
    · rename_i ds e
      split at h
      · exact key _ e (.inr ⟨ds, rfl, by assumption⟩) h
      · cases h
    · cases h
theorem RepM.add {G : Par} {a : Addr} {c : Cell} (h : RepM G μ H m) (hn : a ∉ μ) (hc : RepC G.K G.ca (μ ++ [a]) H a c) : RepM G (μ ++ [a]) H (m ++ [c]) := by
  have e : Ext G.K μ H (μ ++ [a]) H := Ext.snoc .refl
  refine ⟨by simp [h.len], ?_, fun i b c' h1 h2 => ?_, fun b hb => ?_, fun b hb i c' h1 h2 => ?_⟩
  · rw [List.nodup_append]
    refine ⟨h.nd, by simp, fun x hx y hy => ?_⟩
    rw [List.mem_singleton] at hy
    subst hy
    exact fun z => hn (z ▸ hx)
  · rcases Nat.lt_or_ge i μ.length with q | q
    · rw [List.getElem?_append_left q] at h1
      rw [List.getElem?_append_left (h.len ▸ q)] at h2
      exact (h.cell i b c' h1 h2).stay e rfl
    · rw [List.getElem?_append_right q] at h1
      rw [List.getElem?_append_right (h.len ▸ q)] at h2
      have i0 : i - μ.length = 0 := by
        rcases Nat.eq_zero_or_pos (i - μ.length) with z | z
        · exact z
        · rw [List.getElem?_eq_none (by simp; omega)] at h1; cases h1
      rw [i0] at h1
      rw [← h.len, i0] at h2
      simp at h1 h2
      subst h1 h2
      exact hc
  · rw [List.length_append]
    exact Nat.le_trans (h.base b hb) (Nat.le_add_right _ _)
  · rw [List.getElem?_append_left (Nat.lt_of_lt_of_le h1 (h.base b hb))] at h2
    exact h.old b hb i c' h1 h2
end
end CB

set_option Elab.async false
set_option linter.all false
set_option maxRecDepth 100000
set_option maxHeartbeats 4000000
namespace CB
open PySem PySem.Spec PyProof.Rows L2 PySem.SeqAt
section
variable {K : PySem.W.Frag} {ca : Nat → Addr} {k : Ctx} {μ : List Addr} {H H' : Hp} {m : Mem}
/-- the cells that a call is not told of, and their own dicts -/
def hidOf (H : Hp) (μ : List Addr) (l : List Nat) (b : Addr) : Prop := ∃ (i : Nat) (a : Addr), μ[i]? = some a ∧ i ∉ l ∧ (b = a ∨ H b = some (.own a))
theorem rep_kind {a : Addr} {c : Cell} (h : RepC K ca μ H a c) : ∃ o, H a = some o ∧ (∀ xs, o ≠ .tup xs) ∧ (∀ ps, o ≠ .tbl ps) ∧ (∀ u xs, o ≠ .frz u (.tup xs)) ∧ ∀ x, o ≠ .own x := by
  cases c with
  | lst ds => obtain ⟨_, e, _⟩ := h; exact ⟨_, e, (fun _ z => nomatch z), (fun _ z => nomatch z), (fun _ _ z => nomatch z), fun _ z => nomatch z⟩
  | frz ds => obtain ⟨_, _, e, _⟩ := h; exact ⟨_, e, (fun _ z => nomatch z), (fun _ z => nomatch z), (fun _ _ z => nomatch z), fun _ z => nomatch z⟩
  | dK ds => obtain ⟨_, e, _⟩ := h; exact ⟨_, e, (fun _ z => nomatch z), (fun _ z => nomatch z), (fun _ _ z => nomatch z), fun _ z => nomatch z⟩
  | dT ds => obtain ⟨_, e, _⟩ := h; exact ⟨_, e, (fun _ z => nomatch z), (fun _ z => nomatch z), (fun _ _ z => nomatch z), fun _ z => nomatch z⟩
  | ins _ ds => obtain ⟨_, _, e, _⟩ := h; exact ⟨_, e, (fun _ z => nomatch z), (fun _ z => nomatch z), (fun _ _ z => nomatch z), fun _ z => nomatch z⟩
  | exc _ _ => exact h.elim
theorem RepM.at' {G : Par} (hM : RepM G μ H m) {i : Nat} {a : Addr} (h : μ[i]? = some a) : ∃ c, m[i]? = some c ∧ RepC G.K G.ca μ H a c := by
  have hi : i < μ.length := by
    rcases Nat.lt_or_ge i μ.length with q | q
    · exact q
    · rw [List.getElem?_eq_none q] at h; cases h
  have hc : m[i]? = some (m[i]'(hM.len ▸ hi)) := List.getElem?_eq_getElem _
  exact ⟨_, hc, hM.cell i a _ h hc⟩
theorem RepM.idx' {G : Par} (hM : RepM G μ H m) {i j : Nat} {a : Addr} (h : μ[i]? = some a) (h' : μ[j]? = some a) : i = j := by
  have hi : i < μ.length := by
    rcases Nat.lt_or_ge i μ.length with q | q
    · exact q
    · rw [List.getElem?_eq_none q] at h; cases h
  exact (List.getElem?_inj hi hM.nd).mp (h.trans h'.symm)
theorem hid_ok {G : Par} (hM : RepM G μ H m) (l : List Nat) : Hid H (hidOf H μ l) where
  got := fun b ⟨i, a, h1, h2, h3⟩ => by
    obtain ⟨c, _, r⟩ := hM.at' h1
    obtain ⟨o, e, n1, n2, n3, n4⟩ := rep_kind r
    rcases h3 with rfl | h3
    · exact ⟨o, e, n1, n2, n3⟩
    · exact ⟨_, h3, (fun _ z => nomatch z), (fun _ z => nomatch z), fun _ _ z => nomatch z⟩
  own1 := fun b a e ⟨i, a', h1, h2, h3⟩ => by
    rcases h3 with rfl | h3
    · obtain ⟨c, _, r⟩ := hM.at' h1
      obtain ⟨o, e', n1, n2, n3, n4⟩ := rep_kind r
      rw [e] at e'; cases e'; exact absurd rfl (n4 _)
    · rw [e] at h3; cases h3
      exact ⟨i, a, h1, h2, .inl rfl⟩
  own2 := fun b a e ⟨i, a', h1, h2, h3⟩ na => by
    rcases h3 with rfl | h3
    · exact ⟨i, a, h1, h2, .inr e⟩
    · exact absurd h3 (na _)
theorem hid_in {G : Par} (hM : RepM G μ H m) {l : List Nat} {i : Nat} {a : Addr} (h : μ[i]? = some a) (hi : i ∈ l) : ¬ hidOf H μ l a := fun ⟨j, b, h1, h2, h3⟩ => by
  rcases h3 with rfl | h3
  · exact h2 (hM.idx' h h1 ▸ hi)
  · obtain ⟨c, _, r⟩ := hM.at' h
    obtain ⟨o, e', n1, n2, n3, n4⟩ := rep_kind r
    rw [h3] at e'; cases e'; exact n4 _ rfl
theorem hid_out {l : List Nat} {i : Nat} {a : Addr} (h : μ[i]? = some a) (hi : i ∉ l) : hidOf H μ l a := ⟨i, a, h, hi, .inl rfl⟩
theorem pure_repC {a : Addr} {c : Cell} {μ' : List Addr} (h : RepC K ca μ H a c) (hp : (∃ ds, c = .lst ds ∧ D.loL 0 ds = true) ∨ ∃ ds, c = .frz ds ∧ D.loL 0 ds = true) (t : ∀ a xs, SqT K H a xs → SqT K H' a xs) (q : H' a = H a) : RepC K ca μ' H' a c := by
  rcases hp with ⟨ds, rfl, hl⟩ | ⟨ds, rfl, hl⟩
  · obtain ⟨vs, e, r⟩ := h
    exact ⟨vs, q.trans e, pure_rep r hl t⟩
  · obtain ⟨vs, o, e, r⟩ := h
    exact ⟨vs, o, q.trans e, pure_rep r hl t⟩
/-- the told part of the memory -/
theorem foot_in {hM : RepM ⟨K, ca, k⟩ μ H m} {l : List Nat} {mc : Mem} (hc : cellsF m l = some mc) (nd : l.Nodup) : ∃ μc : List Addr, RepM ⟨K, ca, []⟩ μc (hide H (hidOf H μ l)) mc ∧ (∀ (j i : Nat), l[j]? = some i → μc[j]? = μ[i]?) ∧ μc.length = l.length := by
  obtain ⟨h1, h2⟩ := cellsF_ok hc
  have hlen : ∀ i ∈ l, i < μ.length := fun i hi => by
    obtain ⟨j, hj⟩ := List.getElem?_of_mem hi
    obtain ⟨c, _, e, _⟩ := h2 j i hj
    rw [hM.len]
    rcases Nat.lt_or_ge i m.length with q | q
    · exact q
    · rw [List.getElem?_eq_none q] at e; cases e
  have hget : ∀ (j i : Nat), l[j]? = some i → (l.map fun i => μ.getD i 0)[j]? = μ[i]? := fun j i e => by
    rw [List.getElem?_map, e]
    have := hlen i (List.mem_of_getElem? e)
    rw [List.getElem?_eq_getElem this, Option.map_some, List.getD_eq_getElem?_getD, List.getElem?_eq_getElem this]
    rfl
  refine ⟨l.map fun i => μ.getD i 0, ⟨by simp [h1], ?_, fun j a c e1 e2 => ?_, fun b hb => absurd hb (by simp), fun b hb => absurd hb (by simp)⟩, hget, by simp⟩
  · show List.Pairwise (· ≠ ·) (l.map fun i => μ.getD i 0)
    rw [List.pairwise_map]
    refine List.Pairwise.imp_of_mem (fun {a b} ha hb hne z => hne ?_) nd
    have h1 := hlen a ha
    have h2 := hlen b hb
    rw [List.getD_eq_getElem?_getD, List.getD_eq_getElem?_getD, List.getElem?_eq_getElem h1, List.getElem?_eq_getElem h2] at z
    have z : μ[a] = μ[b] := z
    exact (List.getElem?_inj h1 hM.nd).mp (by rw [List.getElem?_eq_getElem h1, List.getElem?_eq_getElem h2, z])
  · have hj : j < l.length := by
      rcases Nat.lt_or_ge j l.length with q | q
      · exact q
      · rw [List.getElem?_eq_none (by simpa using q)] at e1; cases e1
    have el := List.getElem?_eq_getElem hj
    rw [hget j _ el] at e1
    obtain ⟨c', g1, g2, g3⟩ := h2 j _ el
    rw [g1] at e2; cases e2
    have r := hM.cell _ a c e1 g2
    exact pure_repC r g3 (fun _ _ h => hide_sqt (hid_ok hM l) h) (hide_out (hid_in hM e1 (List.getElem_mem hj)))
/-- behind the call: the whole memory -/
theorem foot_out {hM : RepM ⟨K, ca, k⟩ μ H m} {l : List Nat} {m' m2 : Mem} {μc μ' : List Addr} (nd : l.Nodup) (hlen : ∀ i ∈ l, i < m.length) (hget : ∀ (j i : Nat), l[j]? = some i → μc[j]? = μ[i]?) (e : Ext K μc (hide H (hidOf H μ l)) μ' H') (hM' : RepM ⟨K, ca, []⟩ μ' H' m') (hn : ∀ b, hidOf H μ l b → H' b = none) (hb : backF m' l 0 m = some m2) :
    Ext K μ H μ (merge H (hidOf H μ l) H') ∧ RepM ⟨K, ca, k⟩ μ (merge H (hidOf H μ l) H') m2 ∧ m2.length = m.length := by
  obtain ⟨h1, h2, h3⟩ := backF_ok hb nd
  have hh := hid_ok hM l
  have t2 : ∀ a xs, SqT K H' a xs → SqT K (merge H (hidOf H μ l) H') a xs := fun a xs h => merge_sqt hn h
  have t1 : ∀ a xs, SqT K H a xs → SqT K (merge H (hidOf H μ l) H') a xs := fun a xs h => t2 a xs (e.tup a xs (hide_sqt hh h))
  have ex : Ext K μ H μ (merge H (hidOf H μ l) H') := ⟨fun _ _ h => h, t1⟩
  have cell : ∀ i ∈ l, ∃ c, m2[i]? = some c ∧ ((∃ ds, c = .lst ds ∧ D.loL 0 ds = true) ∨ ∃ ds, c = .frz ds ∧ D.loL 0 ds = true) ∧ ∀ a, μ[i]? = some a → RepC K ca μ (merge H (hidOf H μ l) H') a c := fun i hi => by
    obtain ⟨j, hj⟩ := List.getElem?_of_mem hi
    obtain ⟨c, g1, g2, g3⟩ := h3 j i hj (hlen i hi)
    rw [Nat.zero_add] at g2
    refine ⟨c, g1, g3, fun a ha => ?_⟩
    have r := hM'.cell j a c (e.pre _ _ ((hget j i hj).trans ha)) g2
    exact pure_repC r g3 t2 (merge_out (hid_in hM ha hi))
  refine ⟨ex, ⟨by rw [h1]; exact hM.len, hM.nd, fun i a c g1 g2 => ?_, fun b hb => by rw [h1]; exact hM.base b hb, fun b hb i c hi g2 => ?_⟩, h1⟩
  · by_cases hi : i ∈ l
    · obtain ⟨c', q1, _, q3⟩ := cell i hi
      rw [q1] at g2; cases g2
      exact q3 a g1
    · rw [h2 i hi] at g2
      exact (hM.cell i a c g1 g2).stay ex (merge_in (hid_out g1 hi))
  · by_cases hi' : i ∈ l
    · obtain ⟨c', q1, q2, _⟩ := cell i hi'
      rw [q1] at g2; cases g2
      rcases q2 with ⟨ds, rfl, z⟩ | ⟨ds, rfl, z⟩
      · exact loL_mono (Nat.zero_le b) z
      · exact loL_mono (Nat.zero_le b) z
    · rw [h2 i hi'] at g2
      exact hM.old b hb i c hi g2
theorem hide_false {H : Hp} : hide H (fun _ => False) = H := funext fun b => hide_out (fun z => z)
theorem merge_false {H H' : Hp} : merge H (fun _ => False) H' = H' := funext fun b => merge_out (fun z => z)
theorem hid_false {H : Hp} : Hid H fun _ => False := ⟨fun _ z => z.elim, fun _ _ _ z => z.elim, fun _ _ _ z => z.elim⟩
end
section
variable {ca : Nat → Addr} {k : Ctx} {X : Cx} {W : WX} {pos : Pos}
/-- what a footprint call promises, at the arguments -/
theorem foot_sp {K : PySem.W.Frag} {n : Nat} {f : FC} {xs : List D} {vs : List V} {μ : List Addr} {H : Hp} {m : Mem} {r : R D} {σ : L2.St} {Q : VK} (hf : footF f xs m = some r) (hM : RepM ⟨K, ca, k⟩ μ H m) (rv : RepVs K μ H xs vs) (hl : xs.length = n) (h : Post ⟨K, ca, k⟩ W σ μ H (rD ⟨K, ca, k⟩) Q r) :
    ∃ hid, Hid H hid ∧ spF K ca n f vs (hide H hid) (fun v H' => (∀ b, hid b → H' b = none) → Q v (merge H hid H')) fun c d H' => (∀ b, hid b → H' b = none) → W c d σ (merge H hid H') := by
  unfold footF at hf
  split at hf
  · cases hf
  · rename_i ys l ha
    split at hf
    · cases hf
    · rename_i mc hc
      obtain ⟨a1, a2, _, a3⟩ := argsF_ok (K := K) (μ := μ) (H := H) ha .nil
      obtain ⟨μc, hMc, hget, hlc⟩ := foot_in (hM := hM) hc a2
      have hh := hid_ok hM l
      have hlen : ∀ i ∈ l, i < m.length := fun i hi => by
        obtain ⟨j, hj⟩ := List.getElem?_of_mem hi
        obtain ⟨c, _, e, _⟩ := (cellsF_ok hc).2 j i hj
        rcases Nat.lt_or_ge i m.length with q | q
        · exact q
        · rw [List.getElem?_eq_none q] at e; cases e
      refine ⟨hidOf H μ l, hh, [], μc, mc, ys, hMc, a3 rv (fun j i a e1 e2 => (hget j i e1).trans e2) (fun _ _ q => hide_sqt hh q), by rw [a1]; exact hl, ?_⟩
      revert hf
      cases f [] ys mc with
      | bad => exact fun hf => nomatch hf
      | exc x m' =>
        intro hf cls d H' μ' e hM' hx hn
        have fin : ∀ m2, backF m' l 0 m = some m2 → R.exc x m2 = r → RepX K ca μ (merge H (hidOf H μ l) H') x cls d → W cls d σ (merge H (hidOf H μ l) H') := fun m2 hb hr hx' => by
          subst hr
          obtain ⟨g1, g2, _⟩ := foot_out (hM := hM) a2 hlen hget e hM' hn hb
          exact h cls d _ μ g1 g2 hx'
        dsimp only at hf
        split at hf
        · rename_i hx0
          split at hf
          · rename_i m2 hb
            refine fin m2 hb (Option.some.inj hf) ?_
            obtain ⟨x1, x2⟩ := hx
            rw [hx0] at x2
            exact ⟨x1, by rw [hx0]; exact x2⟩
          · cases hf
        · rename_i p hx0
          split at hf
          · rename_i hp
            split at hf
            · rename_i m2 hb
              refine fin m2 hb (Option.some.inj hf) ?_
              obtain ⟨x1, x2⟩ := hx
              rw [hx0] at x2
              refine ⟨x1, ?_⟩
              rw [hx0]
              obtain ⟨da, v, e1, e2, e3⟩ := x2
              have nh : ¬ hidOf H μ l da := fun z => by rw [hn da z] at e2; cases e2
              exact ⟨da, v, e1, by rw [merge_out nh]; exact e2, pure_repV e3 hp fun _ _ q => merge_sqt hn q⟩
            · cases hf
          · cases hf
      | ok d m' =>
        intro hf v H' μ' e hM' hr hn
        dsimp only at hf
        split at hf
        · rename_i m2 hb
          obtain ⟨g1, g2, g3⟩ := foot_out (hM := hM) a2 hlen hget e hM' hn hb
          unfold resF at hf
          split at hf
          · rename_i hd
            cases hf
            exact h v _ μ g1 g2 (pure_repV hr hd fun _ _ q => merge_sqt hn q)
          · cases hr with
            | @ref j a hj =>
                dsimp only at hf
                split at hf
                · rename_i i hi
                  cases hf
                  rw [nth_eq] at hi
                  have hil : i < μ.length := by rw [hM.len]; exact hlen i (List.mem_of_getElem? hi)
                  have e1 := e.pre j _ ((hget j i hi).trans (List.getElem?_eq_getElem hil))
                  rw [hj] at e1
                  cases e1
                  exact h _ _ μ g1 g2 (.ref (List.getElem?_eq_getElem hil))
                · rename_i hi
                  rw [nth_eq] at hi
                  split at hf
                  · rename_i ds hds
                    split at hf
                    · rename_i hl0
                      cases hf
                      rw [nth_eq] at hds
                      obtain ⟨ws, e2, r2⟩ := hM'.cell j a _ hj hds
                      have nh : ¬ hidOf H μ l a := fun z => by rw [hn a z] at e2; cases e2
                      have hna : a ∉ μ := fun z => by
                        obtain ⟨i, hi'⟩ := List.getElem?_of_mem z
                        by_cases hil : i ∈ l
                        · obtain ⟨j', hj'⟩ := List.getElem?_of_mem hil
                          have e3 := e.pre j' a ((hget j' i hj').trans hi')
                          have := hM'.idx' hj e3
                          subst this
                          rw [hj'] at hi; cases hi
                        · exact nh (hid_out hi' hil)
                      have r3 : RepC K ca (μ ++ [a]) (merge H (hidOf H μ l) H') a (.lst ds) := ⟨ws, by rw [merge_out nh]; exact e2, pure_rep r2 hl0 fun _ _ q => merge_sqt hn q⟩
                      refine h _ _ (μ ++ [a]) (g1.trans (Ext.snoc .refl)) (g2.add hna r3) (.ref ?_)
                      show (μ ++ [a])[m2.length]? = some a
                      rw [g3, ← hM.len]
                      simp
                    · cases hf
                  · cases hf
            | _ => cases hf
        · cases hf
theorem so_callF {x : Str} {ps : List Str} {f : FC} {lv : Nat} {p : Pos} {es : List Expr} {as : AC} (C : Cal X.prog X.w X.K X.mg X.base ca x ps f lv) (hx : PassW X W) {e : Expr} (ha : A? ca k X W (e :: es) as) (hr : Room lv X.A) (hg : Gl X x := by rfl) (hl : ps.length = (e :: es).length := by rfl) (hdb : (x == ("__debug__" : Str)) = false := by decide) (he : starEach (e :: es) X.env = (false, eval e X.env) :: starEach es X.env := by rfl) (hpl : (backTo pos (starEach es X.env)).any (·.1) = false := by rfl)
    (hn : ArOk (e :: es).length as) : E? ca k X W (.Call (.Name x p) (e :: es) [] pos) (eCallF f as) := by
  obtain ⟨a, fd, F, hm, hk, hb⟩ := C.ex
  refine ⟨PE.weak (pe_callS (E := WE W) (frame F) hr hg hm hk hb hx ha.pa hdb he hpl) fun σ H Q ⟨ρ, μ, m, hE, hM, h⟩ => ?_⟩
  refine ⟨ρ, μ, m, hE, hM, ?_⟩
  have hn' := hn k ρ m
  replace h : Post ⟨X.K, ca, k⟩ W σ μ H (rD ⟨X.K, ca, k⟩) Q ((as k ρ m).bind fun xs m => match footF f xs m with
    | some r => r
    | none => f k xs m) := h
  show Post ⟨X.K, ca, k⟩ W σ μ H (rDs ⟨X.K, ca, k⟩) _ (as k ρ m)
  revert h
  revert hn'
  cases as k ρ m with
  | ok xs m1 =>
    intro hn' h vs H1 μ1 e1 hm1 r1
    replace h := Post.ext e1 h
    replace h : Post ⟨X.K, ca, k⟩ W σ μ1 H1 (rD ⟨X.K, ca, k⟩) Q (match footF f xs m1 with
      | some r => r
      | none => f k xs m1) := h
    cases hf : footF f xs m1 with
    | some r =>
      rw [hf] at h
      exact foot_sp hf hm1 r1 (by rw [hl]; exact hn') h
    | none =>
      rw [hf] at h
      refine ⟨fun _ => False, hid_false, k, μ1, m1, xs, by rw [hide_false]; exact hm1, by rw [hide_false]; exact r1, by rw [hl]; exact hn', ?_⟩
      rw [hide_false]
      revert h
      cases f k xs m1 with
      | ok d m2 => exact fun h v H' μ' e' hm' r' _ => by rw [merge_false]; exact h v H' μ' e' hm' r'
      | exc x m2 => exact fun h c d H' μ' e' hm' r' _ => by rw [merge_false]; exact h c d H' μ' e' hm' r'
      | bad => exact fun h => h
  | exc x m1 => exact fun _ h => h
  | bad => exact fun _ h => h
end
end CB

set_option Elab.async false
set_option linter.all false
set_option maxRecDepth 100000
set_option maxHeartbeats 4000000
namespace CB
/-! ### running codes: words for the plain law -/
theorem small_b {n : Nat} {i : Int} (h : i.natAbs < 2 ^ 64) (hn : 64 ≤ n := by decide) : small n i = true := by
  unfold small
  rw [Nat.blt_eq]
  exact Nat.lt_of_lt_of_le h (Nat.pow_le_pow_right (by decide) hn)
theorem small_p {n a : Nat} {i : Int} (h : i.natAbs < 2 ^ a) (hn : a ≤ n) : small n i = true := by
  unfold small
  rw [Nat.blt_eq]
  exact Nat.lt_of_lt_of_le h (Nat.pow_le_pow_right (by decide) hn)
theorem loL_ints (n : Nat) : ∀ ns : List Int, D.loL n (ns.map D.int) = true
  | [] => rfl
  | _ :: ns => loL_ints n ns
def f__law_take : FC := mkFn 2 3 (sSeq (sAsg (.one 2) (eOp dMod (eOp dIx (eVar 0) (eK (.int 0))) (eVar 1))) (sSeq (sSetIx (eVar 0) (eK (.int 0)) (eOp dDiv (eOp dIx (eVar 0) (eK (.int 0))) (eVar 1))) (sRet (eVar 2))))
def f__law_mixed : FC := mkFn 2 3 (sSeq (sAsg (.one 2) (eOp dMod (eOp dAdd (eOp dAdd (eOp dMul (eOp dMod (eVar 0) (eK (.int 2147483647))) (eK (.int 48271))) (eOp dMul (eVar 1) (eK (.int 69621)))) (eK (.int 1048583))) (eK (.int 2147483629)))) (sSeq (sAsg (.one 2) (eOp dMod (eOp dMul (eVar 2) (eVar 2)) (eK (.int 2147483587)))) (sRet (eOp dMod (eOp dMul (eVar 2) (eOp dAdd (eVar 2) (eK (.int 2)))) (eK (.int 2147483579))))))
theorem take_ok (x s : Int) (hs : 0 < s) (hb : small 8000 s = true) : f__law_take [] [.ref 0, .int s] [.lst [.int x]] = .ok (.int (x % s)) [.lst [.int (x / s)]] := by
  have e : decide (0 < s) = true := decide_eq_true hs
  unfold f__law_take mkFn callR sSeq sAsg sSetIx gSet sRet
  simp [startE, eOp, eVar, eK, nth, R.bind, R.st, RS.seq, Tg.put, dIx, lstOf, atD, ixD, dMod, dDiv, e, hb, O.r, dSet, stOk, gcR, D.lo, D.loL, Mem.put]
theorem mixed_ok (c j : Int) (hj : j.natAbs < 2 ^ 40) : ∃ r : Int, 0 ≤ r ∧ r < 2147483579 ∧ f__law_mixed [] [.int c, .int j] [] = .ok (.int r) [] := by
  have k1 : small 400000 48271 = true := small_b (by decide)
  have k2 : small 400000 69621 = true := small_b (by decide)
  have h1 : small 400000 (c % 2147483647) = true := small_b (by omega)
  have h2 : small 400000 j = true := small_b (by omega)
  obtain ⟨v, hv⟩ : ∃ v, v = (c % 2147483647 * 48271 + j * 69621 + 1048583) % 2147483629 := ⟨_, rfl⟩
  have v1 : small 400000 v = true := small_b (by omega)
  obtain ⟨u, hu⟩ : ∃ u, u = v * v % 2147483587 := ⟨_, rfl⟩
  have hu0 : 0 ≤ u ∧ u < 2147483587 := by rw [hu]; exact ⟨Int.emod_nonneg _ (by decide), Int.emod_lt_of_pos _ (by decide)⟩
  have u1 : small 400000 u = true := small_b (by omega)
  have u2 : small 400000 (u + 2) = true := small_b (by omega)
  refine ⟨u * (u + 2) % 2147483579, Int.emod_nonneg _ (by decide), Int.emod_lt_of_pos _ (by decide), ?_⟩
  unfold f__law_mixed mkFn callR sSeq sAsg sRet
  simp [startE, eOp, eVar, eK, nth, R.bind, R.st, RS.seq, Tg.put, dMod, dMul, dAdd, h1, h2, k1, k2, O.r, ← hv, v1, ← hu, u1, u2, gcR, D.lo]
def f__law_cell : FC := mkFn 2 5 (sSeq (sAsg (.one 2) (eK (.int 0))) (sSeq (sIf (tcV (eOp dLtI (eVar 1) (eBI dLen (aCons (eVar 0) (aNil))))) (sAsg (.one 2) (eOp dIx (eVar 0) (eVar 1))) (sPass)) (sSeq (sIf (tcV (eOp dGeI (eVar 2) (eOp dPow (eK (.int 10)) (eK (.int 18))))) (sRet (eOp dMod (eOp dSub (eVar 2) (eOp dPow (eK (.int 10)) (eK (.int 18)))) (eOp dMul (eOp dMul (eOp dMul (eOp dPow (eK (.int 10)) (eK (.int 60))) (eOp dPow (eK (.int 10)) (eK (.int 60)))) (eOp dPow (eK (.int 10)) (eK (.int 60)))) (eOp dPow (eK (.int 10)) (eK (.int 60)))))) (sPass)) (sSeq (sAsg (.one 3) (eK (.int 0))) (sSeq (sFor (.one 4) (icRg (rg1 (eK (.int 24)))) (sAsg (.one 3) (eOp dAdd (eOp dMul (eVar 3) (eK (.int 2147483579))) (eCallF f__law_mixed (aCons (eVar 2) (aCons (eOp dAdd (eOp dAdd (eOp dMul (eK (.int 7)) (eVar 1)) (eOp dMul (eK (.int 100)) (eVar 4))) (eOp dMul (eVar 4) (eVar 4))) (aNil))))))) (sRet (eVar 3)))))))
/-- a call of data alone -/
theorem foot_pure {f : FC} {xs : List D} {d : D} {m m' : Mem} (hx : argsF xs [] = some (xs, [])) (h : f [] xs [] = .ok d m') (hd : d.lo 0 = true) : footF f xs m = some (.ok d m) := by
  unfold footF
  rw [hx]
  simp [cellsF, h, backF, resF, hd]
/-- a call told of one list -/
theorem foot_one {f : FC} {xs ys : List D} {d : D} {m m' m2 : Mem} {i : Nat} {c : Cell} (hx : argsF xs [] = some (ys, [i])) (hc : cellF m i = some c) (h : f [] ys [c] = .ok d m') (hb : backF m' [i] 0 m = some m2) (hd : d.lo 0 = true) : footF f xs m = some (.ok d m2) := by
  unfold footF
  rw [hx]
  simp [cellsF, hc, h, hb, resF, hd]
/-- the reading loop of a cell -/
theorem cell_loop (c j : Int) (hj : 0 ≤ j ∧ j < 1000) (d0 : Option D) (a : D) (m : Mem) : ∀ (n i : Nat) (x : Int) (y : Option D), i + n = 24 → 0 ≤ x → x.natAbs < 2 ^ (32 * i + 1) → ∃ x' : Int, ∃ y', 0 ≤ x' ∧
    forN [1] (srcR 0 24) (.one 4) (sAsg (.one 3) (eOp dAdd (eOp dMul (eVar 3) (eK (.int 2147483579))) (eCallF f__law_mixed (aCons (eVar 2) (aCons (eOp dAdd (eOp dAdd (eOp dMul (eK (.int 7)) (eVar 1)) (eOp dMul (eK (.int 100)) (eVar 4))) (eOp dMul (eVar 4) (eVar 4))) (aNil)))))) n i [d0, some (.int j), some (.int c), some (.int x), y] m = .nx [d0, some (.int j), some (.int c), some (.int x'), y'] m
  | 0, i, x, y, hi, h0, hx => by
    refine ⟨x, y, h0, ?_⟩
    unfold forN
    have : Nat.blt i 24 = false := by
      cases e : Nat.blt i 24 with
      | false => rfl
      | true => rw [Nat.blt_eq] at e; omega
    simp [srcR, this]
  | n + 1, i, x, y, hi, h0, hx => by
    have hb : Nat.blt i 24 = true := by rw [Nat.blt_eq]; omega
    have hii : (i : Int) < 24 := by omega
    have q1 : (i : Int) * (i : Int) ≤ 24 * 24 := Int.mul_le_mul (by omega) (by omega) (by omega) (by decide)
    have q0 : 0 ≤ (i : Int) * (i : Int) := Int.mul_nonneg (by omega) (by omega)
    obtain ⟨r, r0, r1, hr⟩ := mixed_ok c (7 * j + 100 * (i : Int) + (i : Int) * (i : Int)) (by omega)
    have hf := foot_pure (m := m) (f := f__law_mixed) rfl hr rfl
    have s1 : small 400000 x = true := small_p hx (by omega)
    have s2 : small 400000 2147483579 = true := small_b (by decide)
    have s3 : small 400000 7 = true := small_b (by decide)
    have s4 : small 400000 j = true := small_b (by omega)
    have s5 : small 400000 100 = true := small_b (by decide)
    have s6 : small 400000 (i : Int) = true := small_b (by omega)
    have p0 : 0 ≤ x * 2147483579 := Int.mul_nonneg h0 (by decide)
    have hx' : (x * 2147483579 + r).natAbs < 2 ^ (32 * (i + 1) + 1) := by
      have e : (2 : Nat) ^ (32 * (i + 1) + 1) = 2 ^ (32 * i + 1) * 4294967296 := by
        rw [show 32 * (i + 1) + 1 = (32 * i + 1) + 32 by omega, Nat.pow_add]
      rw [e]
      omega
    obtain ⟨x', y', hx0, ih⟩ := cell_loop c j hj d0 a m n (i + 1) (x * 2147483579 + r) (some (.int (i : Int))) (by omega) (by omega) hx'
    refine ⟨x', y', hx0, ?_⟩
    unfold forN
    simp only [srcR, hb, if_true, Int.zero_add, Tg.put]
    simp [sAsg, eOp, eVar, eK, nth, R.bind, R.st, dMul, dAdd, s1, s2, s3, s4, s5, s6, O.r, eCallF, aCons, aNil, hf, RS.seq, Tg.put, ih]
theorem nth_map {α β : Type} (f : α → β) : ∀ (l : List α) (n : Nat), nth (l.map f) n = (nth l n).map f
  | [], _ => rfl
  | _ :: _, 0 => rfl
  | _ :: l, n + 1 => nth_map f l n
theorem ble_lt {a b : Nat} (h : a ≤ b) : Nat.ble a b = true := Nat.ble_eq_true_of_le h
theorem p18_ok (k : Ctx) (ρ : Env) (m : Mem) : eOp dPow (eK (.int 10)) (eK (.int 18)) k ρ m = .ok (.int 1000000000000000000) m := by kernel_rfl
theorem p240_ok (k : Ctx) (ρ : Env) (m : Mem) : eOp dMul (eOp dMul (eOp dMul (eOp dPow (eK (.int 10)) (eK (.int 60))) (eOp dPow (eK (.int 10)) (eK (.int 60)))) (eOp dPow (eK (.int 10)) (eK (.int 60)))) (eOp dPow (eK (.int 10)) (eK (.int 60))) k ρ m = .ok (.int (10 ^ 240)) m := by kernel_rfl
theorem cell_ok (ns : List Int) (j : Int) (hj : 0 ≤ j ∧ j < 1000) (hn : ns.length ≤ 63) : ∃ c : Int, 0 ≤ c ∧ f__law_cell [] [.ref 0, .int j] [.frz (ns.map D.int)] = .ok (.int c) [.frz (ns.map D.int)] := by
  -- behind the first two statements
  have key : ∀ c0 : Int, ∃ c : Int, 0 ≤ c ∧ callR 1 ((sSeq (sIf (tcV (eOp dGeI (eVar 2) (eOp dPow (eK (.int 10)) (eK (.int 18))))) (sRet (eOp dMod (eOp dSub (eVar 2) (eOp dPow (eK (.int 10)) (eK (.int 18)))) (eOp dMul (eOp dMul (eOp dMul (eOp dPow (eK (.int 10)) (eK (.int 60))) (eOp dPow (eK (.int 10)) (eK (.int 60)))) (eOp dPow (eK (.int 10)) (eK (.int 60)))) (eOp dPow (eK (.int 10)) (eK (.int 60)))))) (sPass)) (sSeq (sAsg (.one 3) (eK (.int 0))) (sSeq (sFor (.one 4) (icRg (rg1 (eK (.int 24)))) (sAsg (.one 3) (eOp dAdd (eOp dMul (eVar 3) (eK (.int 2147483579))) (eCallF f__law_mixed (aCons (eVar 2) (aCons (eOp dAdd (eOp dAdd (eOp dMul (eK (.int 7)) (eVar 1)) (eOp dMul (eK (.int 100)) (eVar 4))) (eOp dMul (eVar 4) (eVar 4))) (aNil))))))) (sRet (eVar 3))))) [1] [some (.ref 0), some (.int j), some (.int c0), none, none] [.frz (ns.map D.int)]) = .ok (.int c) [.frz (ns.map D.int)] := by
    intro c0
    by_cases hc : 1000000000000000000 ≤ c0
    · refine ⟨(c0 - 1000000000000000000) % (10 ^ 240), Int.emod_nonneg _ (by decide), ?_⟩
      have e1 : decide ((1000000000000000000 : Int) ≤ c0) = true := decide_eq_true hc
      have e2 : decide ((0 : Int) < 10 ^ 240) = true := by decide
      have h1 : ∀ k m, eOp dGeI (eVar 2) (eOp dPow (eK (.int 10)) (eK (.int 18))) k [some (.ref 0), some (.int j), some (.int c0), none, none] m = .ok (.bl true) m := fun k m => by
        rw [eOp]
        simp only [eVar, nth, R.bind, p18_ok, intOp, e1, O.r]
      have h2 : ∀ k m, eOp dMod (eOp dSub (eVar 2) (eOp dPow (eK (.int 10)) (eK (.int 18)))) (eOp dMul (eOp dMul (eOp dMul (eOp dPow (eK (.int 10)) (eK (.int 60))) (eOp dPow (eK (.int 10)) (eK (.int 60)))) (eOp dPow (eK (.int 10)) (eK (.int 60)))) (eOp dPow (eK (.int 10)) (eK (.int 60)))) k [some (.ref 0), some (.int j), some (.int c0), none, none] m = .ok (.int ((c0 - 1000000000000000000) % (10 ^ 240))) m := fun k m => by
        rw [eOp, eOp]
        simp only [eVar, nth, R.bind, p18_ok, p240_ok, dSub, O.r, dMod, e2, if_true]
      simp only [sSeq, sIf, tcV, h1, R.bind, if_true, sRet, h2, R.st, RS.seq, callR, gcR, D.lo]
      rfl
    · have e1 : decide ((1000000000000000000 : Int) ≤ c0) = false := decide_eq_false hc
      have h1 : ∀ k m, eOp dGeI (eVar 2) (eOp dPow (eK (.int 10)) (eK (.int 18))) k [some (.ref 0), some (.int j), some (.int c0), none, none] m = .ok (.bl false) m := fun k m => by
        rw [eOp]
        simp only [eVar, nth, R.bind, p18_ok, intOp, e1, O.r]
      obtain ⟨x', y', h0, hl⟩ := cell_loop c0 j hj (some (.ref 0)) .non [.frz (ns.map D.int)] 24 0 0 none rfl (by decide) (by decide)
      refine ⟨x', h0, ?_⟩
      have t5 : small 40 (24 : Int) = true := small_p (a := 5) (by decide) (by decide)
      have t6 : small 40 (0 : Int) = true := small_p (a := 5) (by decide) (by decide)
      simp only [sSeq, sIf, tcV, h1, R.bind, if_false, Bool.false_eq_true, sPass, RS.seq, sAsg, eK, R.st, Tg.put, List.set, sFor, icRg, rg1, t5, t6, Bool.and_self, if_true, show ((24 : Int) - 0).toNat = 24 from rfl]
      rw [hl]
      simp only [sRet, eVar, nth, R.st, callR, gcR, D.lo]
      rfl
  by_cases h : j < (ns.length : Int)
  · obtain ⟨c0, hc0⟩ : ∃ c0, nth ns j.toNat = some c0 := by
      rw [nth_eq]
      exact ⟨_, List.getElem?_eq_getElem (by omega)⟩
    obtain ⟨c, h0, hc⟩ := key c0
    refine ⟨c, h0, ?_⟩
    rw [← hc]
    have e1 : decide (j < (ns.length : Int)) = true := decide_eq_true h
    have e2 : decide (0 ≤ j) = true := decide_eq_true hj.1
    unfold f__law_cell mkFn
    simp only [startE, List.map_cons, List.map_nil, List.length_cons, List.length_nil, List.cons_append, List.nil_append, show 0 + 1 + 1 = 2 from rfl, show 0 + 1 = 1 from rfl, show 5 - 2 = 3 from rfl, List.replicate, show Nat.beq 2 2 = true from rfl, if_true, sSeq, sAsg, sIf, tcV, eOp, eVar, eK, nth, R.bind, R.st, Tg.put, List.set, eBI, aCons, aNil, dLen, lstOf, List.length_map, O.r, intOp, e1, RS.seq, dIx, atD, ixD, e2, nth_map, hc0, Option.map]
  · obtain ⟨c, h0, hc⟩ := key 0
    refine ⟨c, h0, ?_⟩
    rw [← hc]
    have e1 : decide (j < (ns.length : Int)) = false := decide_eq_false h
    unfold f__law_cell mkFn
    simp only [startE, List.map_cons, List.map_nil, List.length_cons, List.length_nil, List.cons_append, List.nil_append, show 0 + 1 + 1 = 2 from rfl, show 0 + 1 = 1 from rfl, show 5 - 2 = 3 from rfl, List.replicate, show Nat.beq 2 2 = true from rfl, if_true, sSeq, sAsg, sIf, tcV, eOp, eVar, eK, nth, R.bind, R.st, Tg.put, List.set, eBI, aCons, aNil, dLen, lstOf, List.length_map, O.r, intOp, e1, if_false, Bool.false_eq_true, RS.seq, sPass]
theorem forN_rg {k : Ctx} {a : Int} {tot v : Nat} {b : SC} {n i : Nat} {ρ : Env} {m : Mem} (h : n + 1 + i = tot) : forN k (srcR a tot) (.one v) b (n + 1) i ρ m = (b k (ρ.set v (some (.int (a + (i : Int))))) m).seq (forN k (srcR a tot) (.one v) b n (i + 1)) := by
  have hb : Nat.blt i tot = true := by rw [Nat.blt_eq]; omega
  rw [forN]
  simp [srcR, hb, Tg.put]
theorem forN_rg0 {k : Ctx} {a : Int} {tot v : Nat} {b : SC} {n : Nat} {ρ : Env} {m : Mem} : forN k (srcR a tot) (.one v) b n tot ρ m = .nx ρ m := by
  have : Nat.blt tot tot = false := by
    cases e : Nat.blt tot tot with
    | false => rfl
    | true => rw [Nat.blt_eq] at e; omega
  unfold forN
  simp [srcR, this]
def outs : Nat → List Int → List (List Int)
  | 0, _ => [[]]
  | n + 1, left => (List.range left.length).flatMap fun d => (outs n (left.eraseIdx d)).map fun o => left.getD d 0 :: o
theorem nth_set_ne {α : Type} {l : List α} {i j : Nat} {a : α} (h : i ≠ j) : nth (l.set i a) j = nth l j := by rw [nth_eq, nth_eq, List.getElem?_set_ne h]
theorem foot_take {m : Mem} {i : Nat} {x s : Int} (hm : nth m i = some (.lst [.int x])) (hs : 0 < s) (hb : small 8000 s = true) : footF f__law_take [.ref i, .int s] m = some (.ok (.int (x % s)) (Mem.put m i (.lst [.int (x / s)]))) := by
  refine foot_one (ys := [.ref 0, .int s]) (i := i) (c := .lst [.int x]) rfl ?_ (take_ok x s hs hb) ?_ rfl
  · unfold cellF; rw [hm]; rfl
  · rfl
theorem eraseIdx_map {α β : Type} (f : α → β) : ∀ (l : List α) (n : Nat), (l.map f).eraseIdx n = (l.eraseIdx n).map f
  | [], _ => rfl
  | _ :: _, 0 => rfl
  | a :: l, n + 1 => by simp [eraseIdx_map f l n]
theorem order_loop (many : Nat) (hm : many ≤ 100) : ∀ (n i : Nat) (x : Int) (left found : List Int) (y : Option D), left.length = n → i + n = many → found.length = i → 0 ≤ x → ∃ o ∈ outs n left, ∃ (x' : Int) (y' : Option D), 0 ≤ x' ∧
    forN [1] (srcR 0 many) (.one 4) (sExpr (eMt isLst dAppend (eVar 3) (aCons (eMt isLst dPop (eVar 2) (aCons (eCallF f__law_take (aCons (eVar 0) (aCons (eOp dSub (eVar 1) (eVar 4)) (aNil)))) (aNil))) (aNil)))) n i [some (.ref 0), some (.int many), some (.ref 1), some (.ref 2), y] [.lst [.int x], .lst (left.map .int), .lst (found.map .int)] =
      .nx [some (.ref 0), some (.int many), some (.ref 1), some (.ref 2), y'] [.lst [.int x'], .lst [], .lst ((found ++ o).map .int)]
  | 0, i, x, left, found, y, hl, hi, hf, h0 => by
    refine ⟨[], by simp [outs], x, y, h0, ?_⟩
    have : left = [] := List.eq_nil_of_length_eq_zero hl
    subst this
    unfold forN
    have : Nat.blt i many = false := by
      cases e : Nat.blt i many with
      | false => rfl
      | true => rw [Nat.blt_eq] at e; omega
    simp [srcR, this]
  | n + 1, i, x, left, found, y, hl, hi, hf, h0 => by
    have hb : Nat.blt i many = true := by rw [Nat.blt_eq]; omega
    have hs : (many : Int) - (i : Int) = ((n + 1 : Nat) : Int) := by omega
    have s0 : (0 : Int) < ((n + 1 : Nat) : Int) := by omega
    have s1 : small 8000 ((n + 1 : Nat) : Int) = true := small_b (by omega)
    have ht := foot_take (m := [.lst [.int x], .lst (left.map .int), .lst (found.map .int)]) (i := 0) (x := x) rfl s0 s1
    have d0 : 0 ≤ x % ((n + 1 : Nat) : Int) := Int.emod_nonneg _ (by omega)
    have d1 : x % ((n + 1 : Nat) : Int) < ((n + 1 : Nat) : Int) := Int.emod_lt_of_pos _ s0
    obtain ⟨d, hd⟩ : ∃ d : Nat, x % ((n + 1 : Nat) : Int) = (d : Int) := ⟨(x % ((n + 1 : Nat) : Int)).toNat, by omega⟩
    have hdl : d < left.length := by omega
    have q0 : 0 ≤ x / ((n + 1 : Nat) : Int) := Int.ediv_nonneg h0 (by omega)
    have hx1 : ixD left.length (d : Int) = some d := by
      unfold ixD
      have e1 : decide ((0 : Int) ≤ (d : Int)) = true := decide_eq_true (by omega)
      have e2 : decide ((d : Int) < (left.length : Int)) = true := decide_eq_true (by omega)
      simp [e1, e2]
      omega
    have hg : nth (left.map D.int) d = some (.int (left.getD d 0)) := by
      rw [nth_map, nth_eq, List.getElem?_eq_getElem hdl]
      simp [List.getD_eq_getElem?_getD, List.getElem?_eq_getElem hdl]
    have hk : decide ((d : Int).natAbs < 2 ^ 60) = true := decide_eq_true (by omega)
    have hfl : Nat.ble found.length lim = true := ble_lt (by unfold lim; omega)
    obtain ⟨o, ho, x', y', hx0, ih⟩ := order_loop many hm n (i + 1) (x / ((n + 1 : Nat) : Int)) (left.eraseIdx d) (found ++ [left.getD d 0]) (some (.int (i : Int))) (by rw [List.length_eraseIdx]; split <;> omega) (by omega) (by simp; omega) q0
    refine ⟨left.getD d 0 :: o, ?_, x', y', hx0, ?_⟩
    · unfold outs
      exact List.mem_flatMap.mpr ⟨d, List.mem_range.mpr hdl, List.mem_map.mpr ⟨o, ho, rfl⟩⟩
    · unfold forN
      simp only [srcR, hb, if_true, Int.zero_add, Tg.put]
      have e3 : (found ++ [left.getD d 0]) ++ o = found ++ (left.getD d 0 :: o) := by simp
      rw [e3] at ih
      rw [← ih]
      simp only [sExpr, eMt, eVar, nth, List.set, R.bind, isLst, if_true, aCons, aNil, eCallF, eOp, eK, dSub, O.r, hs, ht, hd, Mem.put, dPop, hx1, hg, hk, dAppend, List.length_map, hfl, stOk, List.all, D.lo, Bool.and_true, Bool.or_true, R.st, RS.seq, eraseIdx_map, List.map_append, List.map_cons, List.map_nil]
def f__law_order : FC := mkFn 2 5 (sSeq (sAsg (.one 2) (eListRg (rg1 (eVar 1)))) (sSeq (sAsg (.one 3) (eLst (aNil))) (sSeq (sFor (.one 4) (icRg (rg1 (eVar 1))) (sExpr (eMt isLst dAppend (eVar 3) (aCons (eMt isLst dPop (eVar 2) (aCons (eCallF f__law_take (aCons (eVar 0) (aCons (eOp dSub (eVar 1) (eVar 4)) (aNil)))) (aNil))) (aNil))))) (sRet (eBI dTuple (aCons (eVar 3) (aNil)))))))
/-- a drawn order: one of the finitely many, the pile's rest whatever -/
theorem order_ok (many : Nat) (hm : many ≤ 100) (x : Int) (h0 : 0 ≤ x) : ∃ o ∈ outs many ((List.range many).map Int.ofNat), ∃ x' : Int, 0 ≤ x' ∧ f__law_order [] [.ref 0, .int many] [.lst [.int x]] = .ok (.tup (o.map .int)) [.lst [.int x']] := by
  have e0 : rgD 0 (many : Int) = ((List.range many).map Int.ofNat).map D.int := by
    unfold rgD
    rw [show ((many : Int) - 0).toNat = many by omega, List.map_map]
    apply List.map_congr_left
    intro i _
    simp
  obtain ⟨o, ho, x', y', hx0, hl⟩ := order_loop many hm many 0 x ((List.range many).map Int.ofNat) [] none (by simp) (by omega) rfl h0
  refine ⟨o, ho, x', hx0, ?_⟩
  have t5 : small 40 (many : Int) = true := small_p (a := 7) (by omega) (by decide)
  have t6 : small 40 (0 : Int) = true := small_p (a := 5) (by decide) (by decide)
  have t7 : Nat.ble (rgD 0 (many : Int)).length lim = true := ble_lt (by rw [e0]; simp; unfold lim; omega)
  have t8 : Nat.ble ((many : Int) - 0).toNat lim = true := ble_lt (by unfold lim; omega)
  have t9 : ((many : Int) - 0).toNat = many := by omega
  have t10 : many ≤ lim := by unfold lim; omega
  have l1 : D.lo 1 (.tup (o.map D.int)) = true := loL_ints 1 o
  simp only [List.nil_append, List.map_nil] at hl
  unfold f__law_order mkFn
  simp [-List.map_map, t10, startE, sSeq, sAsg, eListRg, rg1, eVar, nth, R.bind, t6, t5, t8, Bool.and_self, newL, t7, t8, O.r, R.st, Tg.put, List.set, RS.seq, eLst, aNil, show Nat.ble 0 lim = true from rfl, Mem.push, sFor, icRg, t9, e0, hl, sRet, eBI, aCons, dTuple, seqOf, lstOf, callR, gcR, l1, List.take, List.length_map, List.length_range]
end CB

set_option Elab.async false
set_option linter.all false
set_option maxRecDepth 100000
set_option maxHeartbeats 0
namespace K68
open PySem PySem.Spec PyProof.Rows L2 CB
def topS (i : Nat) : Stmt := PySem.Challenge.pw_crossbends_k68_orders_with_one_fall.main.body.getD i (.Pass ⟨0, 0, 0, 0⟩)

/-! ### the codes -/
abbrev s__law_mixed : Stmt := topS 13
abbrev N__law_mixed : List Str := ["_law_cell_here", "_law_k", "_law_number"]
def f__law_mixed : FC := mkFn 2 3 (sSeq (sAsg (.one 2) (eOp dMod (eOp dAdd (eOp dAdd (eOp dMul (eOp dMod (eVar 0) (eK (.int 2147483647))) (eK (.int 48271))) (eOp dMul (eVar 1) (eK (.int 69621)))) (eK (.int 1048583))) (eK (.int 2147483629)))) (sSeq (sAsg (.one 2) (eOp dMod (eOp dMul (eVar 2) (eVar 2)) (eK (.int 2147483587)))) (sRet (eOp dMod (eOp dMul (eVar 2) (eOp dAdd (eVar 2) (eK (.int 2)))) (eK (.int 2147483579))))))
abbrev s__law_cell : Stmt := topS 14
abbrev N__law_cell : List Str := ["_law_script", "_law_k", "_law_cell_here", "_law_found", "_law_j"]
def f__law_cell : FC := mkFn 2 5 (sSeq (sAsg (.one 2) (eK (.int 0))) (sSeq (sIf (tcV (eOp dLtI (eVar 1) (eBI dLen (aCons (eVar 0) (aNil))))) (sAsg (.one 2) (eOp dIx (eVar 0) (eVar 1))) (sPass)) (sSeq (sIf (tcV (eOp dGeI (eVar 2) (eOp dPow (eK (.int 10)) (eK (.int 18))))) (sRet (eOp dMod (eOp dSub (eVar 2) (eOp dPow (eK (.int 10)) (eK (.int 18)))) (eOp dMul (eOp dMul (eOp dMul (eOp dPow (eK (.int 10)) (eK (.int 60))) (eOp dPow (eK (.int 10)) (eK (.int 60)))) (eOp dPow (eK (.int 10)) (eK (.int 60)))) (eOp dPow (eK (.int 10)) (eK (.int 60)))))) (sPass)) (sSeq (sAsg (.one 3) (eK (.int 0))) (sSeq (sFor (.one 4) (icRg (rg1 (eK (.int 24)))) (sAsg (.one 3) (eOp dAdd (eOp dMul (eVar 3) (eK (.int 2147483579))) (eCallF f__law_mixed (aCons (eVar 2) (aCons (eOp dAdd (eOp dAdd (eOp dMul (eK (.int 7)) (eVar 1)) (eOp dMul (eK (.int 100)) (eVar 4))) (eOp dMul (eVar 4) (eVar 4))) (aNil))))))) (sRet (eVar 3)))))))
abbrev s__law_whole : Stmt := topS 16
abbrev N__law_whole : List Str := ["_law_found"]
def f__law_whole : FC := mkFn 1 1 (sRet (eAnd (eIsi .int (eVar 0)) (eNot (eIsi .bool (eVar 0)))))
abbrev s_is_whole : Stmt := topS 4
abbrev N_is_whole : List Str := ["thing"]
def f_is_whole : FC := mkFn 1 1 (sRet (eAnd (eIsi .int (eVar 0)) (eNot (eIsi .bool (eVar 0)))))
abbrev s_is_order : Stmt := topS 7
abbrev N_is_order : List Str := ["thing", "one"]
def f_is_order : FC := mkFn 1 2 (sSeq (sIf (tcOr (tcNot (tcV (eIsi .tuple (eVar 0)))) (tcOr (tcV (eOp dLtI (eBI dLen (aCons (eVar 0) (aNil))) (eK (.int 1)))) (tcV (eOp dGtI (eBI dLen (aCons (eVar 0) (aNil))) (eK (.int 5)))))) (sRet (eK (.bl false))) (sPass)) (sRet (eAnd (eBI dAll (aCons (eLc [1] (.one 1) (icSeq (eVar 0)) (tcYes) (eCallF f_is_whole (aCons (eVar 1) (aNil)))) (aNil))) (eOp dEq (eBI dSortedI (aCons (eVar 0) (aNil))) (eListRg (rg1 (eBI dLen (aCons (eVar 0) (aNil)))))))))
abbrev s_look_at_order : Stmt := topS 8
abbrev N_look_at_order : List Str := ["thing"]
def f_look_at_order : FC := mkFn 1 1 (sIf (tcNot (tcV (eCallF f_is_order (aCons (eVar 0) (aNil))))) (sRaise 1) (sPass))
abbrev s_falls : Stmt := topS 9
abbrev N_falls : List Str := ["order", "k"]
def f_falls : FC := mkFn 1 2 (sSeq (sExpr (eCallF f_look_at_order (aCons (eVar 0) (aNil)))) (sRet (eLc [1] (.one 1) (icRg (rg1 (eOp dSub (eBI dLen (aCons (eVar 0) (aNil))) (eK (.int 1))))) (tcV (eOp dGtI (eOp dIx (eVar 0) (eVar 1)) (eOp dIx (eVar 0) (eOp dAdd (eVar 1) (eK (.int 1)))))) (eVar 1))))
abbrev s_one_fall : Stmt := topS 11
abbrev N_one_fall : List Str := ["order", "places", "k", "row", "place", "number"]
def f_one_fall : FC := mkFn 1 6 (sSeq (sAsg (.one 1) (eCallF f_falls (aCons (eVar 0) (aNil)))) (sSeq (sIf (tcV (eOp dGtI (eBI dLen (aCons (eVar 1) (aNil))) (eK (.int 1)))) (sRet (eK .non)) (sPass)) (sSeq (sAsg (.one 2) (eBI dSumL (aCons (eVar 1) (aNil)))) (sSeq (sAsg (.one 3) (eLc [4] (.one 4) (icRevRg (rg1 (eOp dAdd (eVar 2) (eK (.int 1))))) (tcYes) (eOp dSub (eOp dIx (eVar 0) (eVar 4)) (eVar 4)))) (sRet (eTup (aCons (eVar 2) (aCons (eBI dTuple (aCons (eLc [5] (.one 5) (icSeq (eVar 3)) (tcV (eOp dGtI (eVar 5) (eK (.int 0)))) (eVar 5)) (aNil))) (aNil)))))))))
abbrev s__law_good : Stmt := topS 18
abbrev N__law_good : List Str := ["_law_order_here", "_law_found", "_law_some", "_law_fall", "_law_row", "_law_due", "_law_k", "_law_number"]
def f__law_good : FC := mkFn 1 8 (sSeq (sAsg (.one 1) (eCallF f_one_fall (aCons (eVar 0) (aNil)))) (sSeq (sAsg (.one 2) (eLc [6] (.one 6) (icRg (rg1 (eOp dSub (eBI dLen (aCons (eVar 0) (aNil))) (eK (.int 1))))) (tcV (eOp dGtI (eOp dIx (eVar 0) (eVar 6)) (eOp dIx (eVar 0) (eOp dAdd (eVar 6) (eK (.int 1)))))) (eVar 6))) (sSeq (sIf (tcV (eOp dGtI (eBI dLen (aCons (eVar 2) (aNil))) (eK (.int 1)))) (sRet (eOp dIs (eVar 1) (eK .non))) (sPass)) (sSeq (sAsg (.one 3) (eOp dIx (eOp dAdd (eVar 2) (eLst (aCons (eK (.int 0)) (aNil)))) (eK (.int 0)))) (sSeq (sAsg (.one 4) (eLc [6] (.one 6) (icRg (rg1 (eOp dAdd (eVar 3) (eK (.int 1))))) (tcYes) (eOp dAdd (eOp dSub (eOp dIx (eVar 0) (eOp dSub (eVar 3) (eVar 6))) (eVar 3)) (eVar 6)))) (sSeq (sAsg (.one 5) (eTup (aCons (eVar 3) (aCons (eBI dTuple (aCons (eLc [7] (.one 7) (icSeq (eVar 4)) (tcV (eOp dNe (eVar 7) (eK (.int 0)))) (eVar 7)) (aNil))) (aNil))))) (sSeq (sIf (tcOr (tcNot (tcV (eIsi .tuple (eVar 1)))) (tcOr (tcV (eOp dNe (eVar 1) (eVar 5))) (tcNot (tcV (eIsi .tuple (eOp dIx (eVar 1) (eK (.int 1)))))))) (sRet (eK (.bl false))) (sPass)) (sRet (eAnd (eCallF f__law_whole (aCons (eOp dIx (eVar 1) (eK (.int 0))) (aNil))) (eBI dAll (aCons (eLc [7] (.one 7) (icSeq (eOp dIx (eVar 1) (eK (.int 1)))) (tcYes) (eCallF f__law_whole (aCons (eVar 7) (aNil)))) (aNil))))))))))))
abbrev s__law_take : Stmt := topS 15
abbrev N__law_take : List Str := ["_law_pile", "_law_size", "_law_digit"]
def f__law_take : FC := mkFn 2 3 (sSeq (sAsg (.one 2) (eOp dMod (eOp dIx (eVar 0) (eK (.int 0))) (eVar 1))) (sSeq (sSetIx (eVar 0) (eK (.int 0)) (eOp dDiv (eOp dIx (eVar 0) (eK (.int 0))) (eVar 1))) (sRet (eVar 2))))
abbrev s__law_order : Stmt := topS 17
abbrev N__law_order : List Str := ["_law_pile", "_law_many", "_law_left", "_law_found", "_law_place"]
def f__law_order : FC := mkFn 2 5 (sSeq (sAsg (.one 2) (eListRg (rg1 (eVar 1)))) (sSeq (sAsg (.one 3) (eLst (aNil))) (sSeq (sFor (.one 4) (icRg (rg1 (eVar 1))) (sExpr (eMt isLst dAppend (eVar 3) (aCons (eMt isLst dPop (eVar 2) (aCons (eCallF f__law_take (aCons (eVar 0) (aCons (eOp dSub (eVar 1) (eVar 4)) (aNil)))) (aNil))) (aNil))))) (sRet (eBI dTuple (aCons (eVar 3) (aNil)))))))
abbrev s__law_parted : Stmt := topS 19
abbrev N__law_parted : List Str := ["_law_pile", "_law_many", "_law_front", "_law_behind", "_law_thing"]
def f__law_parted : FC := mkFn 2 5 (sSeq (sAsg (.one 2) (eLst (aNil))) (sSeq (sAsg (.one 3) (eLst (aNil))) (sSeq (sFor (.one 4) (icRg (rg1 (eVar 1))) (sIf (tcV (eOp dEq (eCallF f__law_take (aCons (eVar 0) (aCons (eK (.int 2)) (aNil)))) (eK (.int 0)))) (sExpr (eMt isLst dAppend (eVar 2) (aCons (eVar 4) (aNil)))) (sExpr (eMt isLst dAppend (eVar 3) (aCons (eVar 4) (aNil)))))) (sRet (eBI dTuple (aCons (eOp dAdd (eVar 2) (eVar 3)) (aNil)))))))
abbrev s_law : Stmt := topS 20
abbrev N_law : List Str := ["_law_script", "_law_k", "_law_pile", "_law_many", "_law_order_here"]
def f_law : FC := mkFn 1 5 (sSeq (sFor (.one 1) (icRg (rg1 (eK (.int 6)))) (sSeq (sAsg (.one 2) (eLst (aCons (eCallF f__law_cell (aCons (eVar 0) (aCons (eVar 1) (aNil)))) (aNil)))) (sSeq (sAsg (.one 3) (eOp dAdd (eK (.int 1)) (eCallF f__law_take (aCons (eVar 2) (aCons (eK (.int 5)) (aNil)))))) (sSeq (sAsg (.one 4) (eCallF f__law_order (aCons (eVar 2) (aCons (eVar 3) (aNil))))) (sIf (tcOr (tcNot (tcV (eCallF f__law_good (aCons (eVar 4) (aNil))))) (tcNot (tcV (eCallF f__law_good (aCons (eCallF f__law_parted (aCons (eVar 2) (aCons (eVar 3) (aNil)))) (aNil)))))) (sRet (eK (.bl false))) (sPass)))))) (sRet (eAnd (eCallF f__law_good (aCons (eTup (aCons (eK (.int 0)) (aNil))) (aNil))) (eAnd (eCallF f__law_good (aCons (eTup (aCons (eK (.int 0)) (aCons (eK (.int 1)) (aCons (eK (.int 2)) (aCons (eK (.int 3)) (aCons (eK (.int 4)) (aNil))))))) (aNil))) (eCallF f__law_good (aCons (eTup (aCons (eK (.int 4)) (aCons (eK (.int 3)) (aCons (eK (.int 2)) (aCons (eK (.int 1)) (aCons (eK (.int 0)) (aNil))))))) (aNil)))))))
/-! ### what the top is asked -/
def cn : Nat → Str
  | 0 => "OrderError"
  | 1 => "BadOrder"
  | _ => ""
def ca (K : PySem.W.Frag) : Nat → Addr := fun c => He.ga K (cn c)
def fa : List He.Fa := [.glo "_law_mixed", .glo "_law_cell", .glo "_law_whole", .glo "is_whole", .glo "is_order", .glo "look_at_order", .glo "falls", .glo "one_fall", .glo "_law_good", .glo "_law_take", .glo "_law_order", .glo "_law_parted", .glo "law", .free "range", .free "len", .free "isinstance", .free "int", .free "bool", .free "all", .free "sorted", .free "list", .free "tuple", .int "MOST" 5, .exc "BadOrder", .glo "BadOrder", .free "reversed", .free "sum"]
def fn : List He.DefD := [⟨("_law_mixed", none), "_law_mixed", "_law_mixed", defArgs s__law_mixed, defBody s__law_mixed, defScope s__law_mixed, [], []⟩,
  ⟨("_law_cell", none), "_law_cell", "_law_cell", defArgs s__law_cell, defBody s__law_cell, defScope s__law_cell, [], []⟩,
  ⟨("_law_whole", none), "_law_whole", "_law_whole", defArgs s__law_whole, defBody s__law_whole, defScope s__law_whole, [], []⟩,
  ⟨("is_whole", none), "is_whole", "is_whole", defArgs s_is_whole, defBody s_is_whole, defScope s_is_whole, [], []⟩,
  ⟨("is_order", none), "is_order", "is_order", defArgs s_is_order, defBody s_is_order, defScope s_is_order, [], []⟩,
  ⟨("look_at_order", none), "look_at_order", "look_at_order", defArgs s_look_at_order, defBody s_look_at_order, defScope s_look_at_order, [], []⟩,
  ⟨("falls", none), "falls", "falls", defArgs s_falls, defBody s_falls, defScope s_falls, [], []⟩,
  ⟨("one_fall", none), "one_fall", "one_fall", defArgs s_one_fall, defBody s_one_fall, defScope s_one_fall, [], []⟩,
  ⟨("_law_good", none), "_law_good", "_law_good", defArgs s__law_good, defBody s__law_good, defScope s__law_good, [], []⟩,
  ⟨("_law_take", none), "_law_take", "_law_take", defArgs s__law_take, defBody s__law_take, defScope s__law_take, [], []⟩,
  ⟨("_law_order", none), "_law_order", "_law_order", defArgs s__law_order, defBody s__law_order, defScope s__law_order, [], []⟩,
  ⟨("_law_parted", none), "_law_parted", "_law_parted", defArgs s__law_parted, defBody s__law_parted, defScope s__law_parted, [], []⟩,
  ⟨("law", none), "law", "law", defArgs s_law, defBody s_law, defScope s_law, [], []⟩]
abbrev R : PySem.W.OpenRow := PySem.W.OpenLaw.row PySem.Challenge.rw_crossbends_k68_orders_with_one_fall
abbrev hk : PySem.W.Hook := hookN 4 fa fn
def ob (s : PySem.W.SharedT) : He.AlD := obsN 4 fa fn (HandSHeadRun.getT s)
theorem ob_eq (s : PySem.W.SharedT) : ob s = hk.obs s.abs := obsN_eq (HandSHeadRun.getT_eq s)
def loose : List Str := ["OrderError", "BadOrder", "is_whole", "is_order", "look_at_order", "falls", "one_fall", "_law_mixed", "_law_cell", "_law_take", "_law_whole", "_law_order", "_law_good", "_law_parted", "MOST"]
/-! ### each def keeps its promise -/
section
variable {P : Program} {w : World} {K : PySem.W.Frag} {mg : Str → Option Value} {base : Heap}
theorem sc__law_mixed : FnScope N__law_mixed ["_law_cell_here", "_law_k"] (defScope s__law_mixed) := ⟨rfl, rfl, rfl, by decide +kernel, rfl, by decide +kernel, by decide +kernel⟩
theorem c__law_mixed (T : Tx fa fn K mg) : Cal P w K mg base (ca K) "_law_mixed" ["_law_cell_here", "_law_k"] f__law_mixed 1 :=
  mk_cal T 0 0 sc__law_mixed rfl rfl rfl rfl (fun _ _ _ _ _ _ us hl => match us, hl with | [_, _], _ => rfl) fun k f cdv A outer s H E hr => by
    have hu := hu_70 hr
    have nd := sc__law_mixed.nd
    have tk := takes_of (X := cxOf (L2.CX P w) P w K mg base N__law_mixed "_law_mixed" (defScope s__law_mixed) f cdv A outer s H E) rfl rfl rfl rfl
    have hp := pw_tk tk
    have po := passes_of (X := cxOf (L2.CX P w) P w K mg base N__law_mixed "_law_mixed" (defScope s__law_mixed) f cdv A outer s H E) rfl
    exact (ss_cons (s_set 2 (so_op dMod_ok (so_op dAdd_ok (so_op dAdd_ok (so_op dMul_ok (so_op dMod_ok (so_var 0 rfl (Or.inl rfl)) so_int) so_int) (so_op dMul_ok (so_var 1 rfl (Or.inl rfl)) so_int)) so_int) so_int) nd rfl (Or.inl rfl))
      (ss_cons (s_set 2 (so_op dMod_ok (so_op dMul_ok (so_var 2 rfl (Or.inl rfl)) (so_var 2 rfl (Or.inl rfl))) so_int) nd rfl (Or.inl rfl))
      (ss_one (s_ret (so_op dMod_ok (so_op dMul_ok (so_var 2 rfl (Or.inl rfl)) (so_op dAdd_ok (so_var 2 rfl (Or.inl rfl)) so_int)) so_int)))))
theorem sc__law_cell : FnScope N__law_cell ["_law_script", "_law_k"] (defScope s__law_cell) := ⟨rfl, rfl, rfl, by decide +kernel, rfl, by decide +kernel, by decide +kernel⟩
theorem c__law_cell (T : Tx fa fn K mg) : Cal P w K mg base (ca K) "_law_cell" ["_law_script", "_law_k"] f__law_cell 2 :=
  mk_cal T 1 1 sc__law_cell rfl rfl rfl rfl (fun _ _ _ _ _ _ us hl => match us, hl with | [_, _], _ => rfl) fun k f cdv A outer s H E hr => by
    have hu := hu_70 hr
    have nd := sc__law_cell.nd
    have tk := takes_of (X := cxOf (L2.CX P w) P w K mg base N__law_cell "_law_cell" (defScope s__law_cell) f cdv A outer s H E) rfl rfl rfl rfl
    have hp := pw_tk tk
    have po := passes_of (X := cxOf (L2.CX P w) P w K mg base N__law_cell "_law_cell" (defScope s__law_cell) f cdv A outer s H E) rfl
    exact (ss_cons (s_set 2 so_int nd rfl (Or.inl rfl))
      (ss_cons (s_if (st_cmp dLtI_ok (so_var 1 rfl (Or.inl rfl)) (so_callB dLen_ok rfl (T.free 14) boot_len (so_acons (so_var 0 rfl (Or.inl rfl)) so_anil))) (ss_one (s_set 2 (so_ix dIx_ok (so_var 0 rfl (Or.inl rfl)) (so_var 1 rfl (Or.inl rfl))) nd rfl (Or.inl rfl))) ss_nil)
      (ss_cons (s_if (st_cmp dGeI_ok (so_var 2 rfl (Or.inl rfl)) (so_op dPow_ok so_int so_int)) (ss_one (s_ret (so_op dMod_ok (so_op dSub_ok (so_var 2 rfl (Or.inl rfl)) (so_op dPow_ok so_int so_int)) (so_op dMul_ok (so_op dMul_ok (so_op dMul_ok (so_op dPow_ok so_int so_int) (so_op dPow_ok so_int so_int)) (so_op dPow_ok so_int so_int)) (so_op dPow_ok so_int so_int))))) ss_nil)
      (ss_cons (s_set 3 so_int nd rfl (Or.inl rfl))
      (ss_cons (s_for (PI_rg1 so_int (T.free 13)) (pg_name (i := 4) nd rfl (Or.inl rfl)) (ss_one (s_set 3 (so_op dAdd_ok (so_op dMul_ok (so_var 3 rfl (Or.inl rfl)) so_int) (so_callF (c__law_mixed T) hp (so_acons (so_var 2 rfl (Or.inl rfl)) (so_acons (so_op dAdd_ok (so_op dAdd_ok (so_op dMul_ok so_int (so_var 1 rfl (Or.inl rfl))) (so_op dMul_ok so_int (so_var 4 rfl (Or.inl rfl)))) (so_op dMul_ok (so_var 4 rfl (Or.inl rfl)) (so_var 4 rfl (Or.inl rfl)))) so_anil)) (hr.mono (by decide)) (hn := (ar_cons (ar_cons ar_nil))))) nd rfl (Or.inl rfl))) po rfl)
      (ss_one (s_ret (so_var 3 rfl (Or.inl rfl)))))))))
theorem sc__law_whole : FnScope N__law_whole ["_law_found"] (defScope s__law_whole) := ⟨rfl, rfl, rfl, by decide +kernel, rfl, by decide +kernel, by decide +kernel⟩
theorem c__law_whole (T : Tx fa fn K mg) : Cal P w K mg base (ca K) "_law_whole" ["_law_found"] f__law_whole 1 :=
  mk_cal T 2 2 sc__law_whole rfl rfl rfl rfl (fun _ _ _ _ _ _ us hl => match us, hl with | [_], _ => rfl) fun k f cdv A outer s H E hr => by
    have hu := hu_70 hr
    have nd := sc__law_whole.nd
    have tk := takes_of (X := cxOf (L2.CX P w) P w K mg base N__law_whole "_law_whole" (defScope s__law_whole) f cdv A outer s H E) rfl rfl rfl rfl
    have hp := pw_tk tk
    have po := passes_of (X := cxOf (L2.CX P w) P w K mg base N__law_whole "_law_whole" (defScope s__law_whole) f cdv A outer s H E) rfl
    exact (ss_one (s_ret (so_and (so_isi .int (so_var 0 rfl (Or.inl rfl)) (T.free 15) (T.free 16)) (so_one (so_not (so_isi .bool (so_var 0 rfl (Or.inl rfl)) (T.free 15) (T.free 17)))))))
theorem sc_is_whole : FnScope N_is_whole ["thing"] (defScope s_is_whole) := ⟨rfl, rfl, rfl, by decide +kernel, rfl, by decide +kernel, by decide +kernel⟩
theorem c_is_whole (T : Tx fa fn K mg) : Cal P w K mg base (ca K) "is_whole" ["thing"] f_is_whole 1 :=
  mk_cal T 3 3 sc_is_whole rfl rfl rfl rfl (fun _ _ _ _ _ _ us hl => match us, hl with | [_], _ => rfl) fun k f cdv A outer s H E hr => by
    have hu := hu_70 hr
    have nd := sc_is_whole.nd
    have tk := takes_of (X := cxOf (L2.CX P w) P w K mg base N_is_whole "is_whole" (defScope s_is_whole) f cdv A outer s H E) rfl rfl rfl rfl
    have hp := pw_tk tk
    have po := passes_of (X := cxOf (L2.CX P w) P w K mg base N_is_whole "is_whole" (defScope s_is_whole) f cdv A outer s H E) rfl
    exact (ss_one (s_ret (so_and (so_isi .int (so_var 0 rfl (Or.inl rfl)) (T.free 15) (T.free 16)) (so_one (so_not (so_isi .bool (so_var 0 rfl (Or.inl rfl)) (T.free 15) (T.free 17)))))))
theorem sc_is_order : FnScope N_is_order ["thing"] (defScope s_is_order) := ⟨rfl, rfl, rfl, by decide +kernel, rfl, by decide +kernel, by decide +kernel⟩
theorem c_is_order (T : Tx fa fn K mg) : Cal P w K mg base (ca K) "is_order" ["thing"] f_is_order 2 :=
  mk_cal T 4 4 sc_is_order rfl rfl rfl rfl (fun _ _ _ _ _ _ us hl => match us, hl with | [_], _ => rfl) fun k f cdv A outer s H E hr => by
    have hu := hu_70 hr
    have nd := sc_is_order.nd
    have tk := takes_of (X := cxOf (L2.CX P w) P w K mg base N_is_order "is_order" (defScope s_is_order) f cdv A outer s H E) rfl rfl rfl rfl
    have hp := pw_tk tk
    have po := passes_of (X := cxOf (L2.CX P w) P w K mg base N_is_order "is_order" (defScope s_is_order) f cdv A outer s H E) rfl
    exact (ss_cons (s_if (SW.st (sw_or (st_not (st_val (so_isi .tuple (so_var 0 rfl (Or.inl rfl)) (T.free 15) (T.free 21)))) (sw_or (st_cmp dLtI_ok (so_callB dLen_ok rfl (T.free 14) boot_len (so_acons (so_var 0 rfl (Or.inl rfl)) so_anil)) so_int) (sw_or1 (st_cmp dGtI_ok (so_callB dLen_ok rfl (T.free 14) boot_len (so_acons (so_var 0 rfl (Or.inl rfl)) so_anil)) (so_gI (T.int 22))))))) (ss_one (s_ret so_bl)) ss_nil)
      (ss_one (s_ret (so_and (so_callB (dAll_ok rfl) rfl (T.free 18) boot_all (so_acons (so_lc (own := [("one", 1)]) (si_seq (so_var 0 rfl (Or.inl rfl))) (blkOk_by (N := N_is_order) (sc := defScope s_is_order) (by decide +kernel)) (by decide) (fun _ _ _ _ _ => (pg_name (i := 1) nd rfl (Or.inl rfl))) (fun _ _ _ _ _ => sp_nil) (fun _ _ _ _ _ => (so_callF (c_is_whole T) pw_0 (so_acons (so_var 1 rfl (Or.inl rfl)) so_anil) (hr.mono (by decide)) (hn := (ar_cons ar_nil)))) rfl nd) so_anil)) (so_one (so_cmp (dEq_ok hu) (so_callB dSortedI_ok rfl (T.free 19) boot_sorted (so_acons (so_var 0 rfl (Or.inl rfl)) so_anil)) (so_listRg (sr_1 (so_callB dLen_ok rfl (T.free 14) boot_len (so_acons (so_var 0 rfl (Or.inl rfl)) so_anil)) (T.free 13)) (T.free 20) rfl)))))))
theorem sc_look_at_order : FnScope N_look_at_order ["thing"] (defScope s_look_at_order) := ⟨rfl, rfl, rfl, by decide +kernel, rfl, by decide +kernel, by decide +kernel⟩
theorem c_look_at_order (T : Tx fa fn K mg) : Cal P w K mg base (ca K) "look_at_order" ["thing"] f_look_at_order 3 :=
  mk_cal T 5 5 sc_look_at_order rfl rfl rfl rfl (fun _ _ _ _ _ _ us hl => match us, hl with | [_], _ => rfl) fun k f cdv A outer s H E hr => by
    have hu := hu_70 hr
    have nd := sc_look_at_order.nd
    have tk := takes_of (X := cxOf (L2.CX P w) P w K mg base N_look_at_order "look_at_order" (defScope s_look_at_order) f cdv A outer s H E) rfl rfl rfl rfl
    have hp := pw_tk tk
    have po := passes_of (X := cxOf (L2.CX P w) P w K mg base N_look_at_order "look_at_order" (defScope s_look_at_order) f cdv A outer s H E) rfl
    exact (ss_one (s_if (st_not (st_val (so_callF (c_is_order T) hp (so_acons (so_var 0 rfl (Or.inl rfl)) so_anil) (hr.mono (by decide)) (hn := (ar_cons ar_nil))))) (ss_one (s_raise tk PySem.F.excBase_ValueError (T.exc 23).1 (T.glo 24) (T.exc 23).2.1 (T.exc 23).2.2.1 (T.exc 23).2.2.2 rfl)) ss_nil))
theorem sc_falls : FnScope N_falls ["order"] (defScope s_falls) := ⟨rfl, rfl, rfl, by decide +kernel, rfl, by decide +kernel, by decide +kernel⟩
theorem c_falls (T : Tx fa fn K mg) : Cal P w K mg base (ca K) "falls" ["order"] f_falls 4 :=
  mk_cal T 6 6 sc_falls rfl rfl rfl rfl (fun _ _ _ _ _ _ us hl => match us, hl with | [_], _ => rfl) fun k f cdv A outer s H E hr => by
    have hu := hu_70 hr
    have nd := sc_falls.nd
    have tk := takes_of (X := cxOf (L2.CX P w) P w K mg base N_falls "falls" (defScope s_falls) f cdv A outer s H E) rfl rfl rfl rfl
    have hp := pw_tk tk
    have po := passes_of (X := cxOf (L2.CX P w) P w K mg base N_falls "falls" (defScope s_falls) f cdv A outer s H E) rfl
    exact (ss_cons (s_expr (so_callF (c_look_at_order T) hp (so_acons (so_var 0 rfl (Or.inr (Or.inl rfl))) so_anil) (hr.mono (by decide)) (hn := (ar_cons ar_nil))))
      (ss_one (s_ret (so_lc (own := [("k", 1)]) (PI_rg1 (so_op dSub_ok (so_callB dLen_ok rfl (T.free 14) boot_len (so_acons (so_var 0 rfl (Or.inr (Or.inl rfl))) so_anil)) so_int) (T.free 13)) (blkOk_by (N := N_falls) (sc := defScope s_falls) (by decide +kernel)) (by decide) (fun _ _ _ _ _ => (pg_name (i := 1) nd rfl (Or.inl rfl))) (fun _ _ _ _ _ => sp_one (st_cmp dGtI_ok (so_ix dIx_ok (so_var 0 rfl (Or.inr (Or.inl rfl))) (so_var 1 rfl (Or.inl rfl))) (so_ix dIx_ok (so_var 0 rfl (Or.inr (Or.inl rfl))) (so_op dAdd_ok (so_var 1 rfl (Or.inl rfl)) so_int)))) (fun _ _ _ _ _ => (so_var 1 rfl (Or.inl rfl))) rfl nd))))
theorem sc_one_fall : FnScope N_one_fall ["order"] (defScope s_one_fall) := ⟨rfl, rfl, rfl, by decide +kernel, rfl, by decide +kernel, by decide +kernel⟩
theorem c_one_fall (T : Tx fa fn K mg) : Cal P w K mg base (ca K) "one_fall" ["order"] f_one_fall 5 :=
  mk_cal T 7 7 sc_one_fall rfl rfl rfl rfl (fun _ _ _ _ _ _ us hl => match us, hl with | [_], _ => rfl) fun k f cdv A outer s H E hr => by
    have hu := hu_70 hr
    have nd := sc_one_fall.nd
    have tk := takes_of (X := cxOf (L2.CX P w) P w K mg base N_one_fall "one_fall" (defScope s_one_fall) f cdv A outer s H E) rfl rfl rfl rfl
    have hp := pw_tk tk
    have po := passes_of (X := cxOf (L2.CX P w) P w K mg base N_one_fall "one_fall" (defScope s_one_fall) f cdv A outer s H E) rfl
    exact (ss_cons (s_set 1 (so_callF (c_falls T) hp (so_acons (so_var 0 rfl (Or.inr (Or.inl rfl))) so_anil) (hr.mono (by decide)) (hn := (ar_cons ar_nil))) nd rfl (Or.inl rfl))
      (ss_cons (s_if (st_cmp dGtI_ok (so_callB dLen_ok rfl (T.free 14) boot_len (so_acons (so_var 1 rfl (Or.inl rfl)) so_anil)) so_int) (ss_one (s_ret so_non)) ss_nil)
      (ss_cons (s_set 2 (so_callB (dSumL_ok rfl) rfl (T.free 26) boot_sum (so_acons (so_var 1 rfl (Or.inl rfl)) so_anil)) nd rfl (Or.inl rfl))
      (ss_cons (s_setLc 3 (own := [("place", 4)]) (si_revRg (sr_1 (so_op dAdd_ok (so_var 2 rfl (Or.inl rfl)) so_int) (T.free 13)) (T.free 25)) (blkOk_by (N := N_one_fall) (sc := defScope s_one_fall) (by decide +kernel)) (by decide) (fun _ _ _ _ _ => (pg_name (i := 4) nd rfl (Or.inl rfl))) (fun _ _ _ _ _ => sp_nil) (fun _ _ _ _ _ => (so_op dSub_ok (so_ix dIx_ok (so_var 0 rfl (Or.inr (Or.inl rfl))) (so_var 4 rfl (Or.inl rfl))) (so_var 4 rfl (Or.inl rfl)))) rfl nd (sw_true rfl rfl rfl (by decide +kernel)))
      (ss_one (s_ret (so_tup (so_acons (so_var 2 rfl (Or.inl rfl)) (so_acons (so_callTy dTuple_ok rfl (T.free 21) boot_tuple (so_acons (so_lc (own := [("number", 5)]) (si_seq (so_var 3 rfl (Or.inl rfl))) (blkOk_by (N := N_one_fall) (sc := defScope s_one_fall) (by decide +kernel)) (by decide) (fun _ _ _ _ _ => (pg_name (i := 5) nd rfl (Or.inl rfl))) (fun _ _ _ _ _ => sp_one (st_cmp dGtI_ok (so_var 5 rfl (Or.inl rfl)) so_int)) (fun _ _ _ _ _ => (so_var 5 rfl (Or.inl rfl))) rfl nd) so_anil)) so_anil)))))))))
theorem sc__law_good : FnScope N__law_good ["_law_order_here"] (defScope s__law_good) := ⟨rfl, rfl, rfl, by decide +kernel, rfl, by decide +kernel, by decide +kernel⟩
theorem c__law_good (T : Tx fa fn K mg) : Cal P w K mg base (ca K) "_law_good" ["_law_order_here"] f__law_good 6 :=
  mk_cal T 8 8 sc__law_good rfl rfl rfl rfl (fun _ _ _ _ _ _ us hl => match us, hl with | [_], _ => rfl) fun k f cdv A outer s H E hr => by
    have hu := hu_70 hr
    have nd := sc__law_good.nd
    have tk := takes_of (X := cxOf (L2.CX P w) P w K mg base N__law_good "_law_good" (defScope s__law_good) f cdv A outer s H E) rfl rfl rfl rfl
    have hp := pw_tk tk
    have po := passes_of (X := cxOf (L2.CX P w) P w K mg base N__law_good "_law_good" (defScope s__law_good) f cdv A outer s H E) rfl
    exact (ss_cons (s_set 1 (so_callF (c_one_fall T) hp (so_acons (so_var 0 rfl (Or.inr (Or.inl rfl))) so_anil) (hr.mono (by decide)) (hn := (ar_cons ar_nil))) nd rfl (Or.inl rfl))
      (ss_cons (s_setLc 2 (own := [("_law_k", 6)]) (PI_rg1 (so_op dSub_ok (so_callB dLen_ok rfl (T.free 14) boot_len (so_acons (so_var 0 rfl (Or.inr (Or.inl rfl))) so_anil)) so_int) (T.free 13)) (blkOk_by (N := N__law_good) (sc := defScope s__law_good) (by decide +kernel)) (by decide) (fun _ _ _ _ _ => (pg_name (i := 6) nd rfl (Or.inl rfl))) (fun _ _ _ _ _ => sp_one (st_cmp dGtI_ok (so_ix dIx_ok (so_var 0 rfl (Or.inr (Or.inl rfl))) (so_var 6 rfl (Or.inl rfl))) (so_ix dIx_ok (so_var 0 rfl (Or.inr (Or.inl rfl))) (so_op dAdd_ok (so_var 6 rfl (Or.inl rfl)) so_int)))) (fun _ _ _ _ _ => (so_var 6 rfl (Or.inl rfl))) rfl nd (sw_true rfl rfl rfl (by decide +kernel)))
      (ss_cons (s_if (st_cmp dGtI_ok (so_callB dLen_ok rfl (T.free 14) boot_len (so_acons (so_var 2 rfl (Or.inl rfl)) so_anil)) so_int) (ss_one (s_ret (so_cmp dIs_ok (so_var 1 rfl (Or.inl rfl)) so_non))) ss_nil)
      (ss_cons (s_set 3 (so_ix dIx_ok (so_op dAdd_ok (so_var 2 rfl (Or.inl rfl)) (so_lst (so_acons so_int so_anil))) so_int) nd rfl (Or.inr rfl))
      (ss_cons (s_setLc 4 (own := [("_law_k", 6)]) (PI_rg1 (so_op dAdd_ok (so_var 3 rfl (Or.inr (Or.inl rfl))) so_int) (T.free 13)) (blkOk_by (N := N__law_good) (sc := defScope s__law_good) (by decide +kernel)) (by decide) (fun _ _ _ _ _ => (pg_name (i := 6) nd rfl (Or.inl rfl))) (fun _ _ _ _ _ => sp_nil) (fun _ _ _ _ _ => (so_op dAdd_ok (so_op dSub_ok (so_ix dIx_ok (so_var 0 rfl (Or.inr (Or.inl rfl))) (so_op dSub_ok (so_var 3 rfl (Or.inr (Or.inl rfl))) (so_var 6 rfl (Or.inl rfl)))) (so_var 3 rfl (Or.inr (Or.inl rfl)))) (so_var 6 rfl (Or.inl rfl)))) rfl nd (sw_true rfl rfl rfl (by decide +kernel)))
      (ss_cons (s_set 5 (so_tup (so_acons (so_var 3 rfl (Or.inr (Or.inl rfl))) (so_acons (so_callTy dTuple_ok rfl (T.free 21) boot_tuple (so_acons (so_lc (own := [("_law_number", 7)]) (si_seq (so_var 4 rfl (Or.inl rfl))) (blkOk_by (N := N__law_good) (sc := defScope s__law_good) (by decide +kernel)) (by decide) (fun _ _ _ _ _ => (pg_name (i := 7) nd rfl (Or.inl rfl))) (fun _ _ _ _ _ => sp_one (st_cmp (dNe_ok hu) (so_var 7 rfl (Or.inl rfl)) so_int)) (fun _ _ _ _ _ => (so_var 7 rfl (Or.inl rfl))) rfl nd) so_anil)) so_anil))) nd rfl (Or.inl rfl))
      (ss_cons (s_if (SW.st (sw_or (st_not (st_val (so_isi .tuple (so_var 1 rfl (Or.inl rfl)) (T.free 15) (T.free 21)))) (sw_or (st_cmp (dNe_ok hu) (so_var 1 rfl (Or.inl rfl)) (so_var 5 rfl (Or.inl rfl))) (sw_or1 (st_not (st_val (so_isi .tuple (so_ix dIx_ok (so_var 1 rfl (Or.inl rfl)) so_int) (T.free 15) (T.free 21)))))))) (ss_one (s_ret so_bl)) ss_nil)
      (ss_one (s_ret (so_and (so_callF (c__law_whole T) hp (so_acons (so_ix dIx_ok (so_var 1 rfl (Or.inl rfl)) so_int) so_anil) (hr.mono (by decide)) (hn := (ar_cons ar_nil))) (so_one (so_callB (dAll_ok rfl) rfl (T.free 18) boot_all (so_acons (so_lc (own := [("_law_number", 7)]) (si_seq (so_ix dIx_ok (so_var 1 rfl (Or.inl rfl)) so_int)) (blkOk_by (N := N__law_good) (sc := defScope s__law_good) (by decide +kernel)) (by decide) (fun _ _ _ _ _ => (pg_name (i := 7) nd rfl (Or.inl rfl))) (fun _ _ _ _ _ => sp_nil) (fun _ _ _ _ _ => (so_callF (c__law_whole T) pw_0 (so_acons (so_var 7 rfl (Or.inl rfl)) so_anil) (hr.mono (by decide)) (hn := (ar_cons ar_nil)))) rfl nd) so_anil)))))))))))))
theorem sc__law_take : FnScope N__law_take ["_law_pile", "_law_size"] (defScope s__law_take) := ⟨rfl, rfl, rfl, by decide +kernel, rfl, by decide +kernel, by decide +kernel⟩
theorem c__law_take (T : Tx fa fn K mg) : Cal P w K mg base (ca K) "_law_take" ["_law_pile", "_law_size"] f__law_take 1 :=
  mk_cal T 9 9 sc__law_take rfl rfl rfl rfl (fun _ _ _ _ _ _ us hl => match us, hl with | [_, _], _ => rfl) fun k f cdv A outer s H E hr => by
    have hu := hu_70 hr
    have nd := sc__law_take.nd
    have tk := takes_of (X := cxOf (L2.CX P w) P w K mg base N__law_take "_law_take" (defScope s__law_take) f cdv A outer s H E) rfl rfl rfl rfl
    have hp := pw_tk tk
    have po := passes_of (X := cxOf (L2.CX P w) P w K mg base N__law_take "_law_take" (defScope s__law_take) f cdv A outer s H E) rfl
    exact (ss_cons (s_set 2 (so_op dMod_ok (so_ix dIx_ok (so_var 0 rfl (Or.inl rfl)) so_int) (so_var 1 rfl (Or.inl rfl))) nd rfl (Or.inl rfl))
      (ss_cons (s_setIx (so_op dDiv_ok (so_ix dIx_ok (so_var 0 rfl (Or.inl rfl)) so_int) (so_var 1 rfl (Or.inl rfl))) (so_var 0 rfl (Or.inl rfl)) so_int)
      (ss_one (s_ret (so_var 2 rfl (Or.inl rfl))))))
theorem sc__law_order : FnScope N__law_order ["_law_pile", "_law_many"] (defScope s__law_order) := ⟨rfl, rfl, rfl, by decide +kernel, rfl, by decide +kernel, by decide +kernel⟩
theorem c__law_order (T : Tx fa fn K mg) : Cal P w K mg base (ca K) "_law_order" ["_law_pile", "_law_many"] f__law_order 2 :=
  mk_cal T 10 10 sc__law_order rfl rfl rfl rfl (fun _ _ _ _ _ _ us hl => match us, hl with | [_, _], _ => rfl) fun k f cdv A outer s H E hr => by
    have hu := hu_70 hr
    have nd := sc__law_order.nd
    have tk := takes_of (X := cxOf (L2.CX P w) P w K mg base N__law_order "_law_order" (defScope s__law_order) f cdv A outer s H E) rfl rfl rfl rfl
    have hp := pw_tk tk
    have po := passes_of (X := cxOf (L2.CX P w) P w K mg base N__law_order "_law_order" (defScope s__law_order) f cdv A outer s H E) rfl
    exact (ss_cons (s_set 2 (so_listRg (sr_1 (so_var 1 rfl (Or.inl rfl)) (T.free 13)) (T.free 20) rfl) nd rfl (Or.inl rfl))
      (ss_cons (s_set 3 (so_lst so_anil) nd rfl (Or.inl rfl))
      (ss_cons (s_for (PI_rg1 (so_var 1 rfl (Or.inl rfl)) (T.free 13)) (pg_name (i := 4) nd rfl (Or.inl rfl)) (ss_one (s_expr (so_bm PySem.F.plainAttrs_list PySem.F.slot_list_append PySem.F.type_list_append dAppend_ok isLst_ty (so_var 3 rfl (Or.inl rfl)) (so_acons (so_bm PySem.F.plainAttrs_list PySem.F.slot_list_pop PySem.F.type_list_pop dPop_ok isLst_ty (so_var 2 rfl (Or.inl rfl)) (so_acons (so_callF (c__law_take T) hp (so_acons (so_var 0 rfl (Or.inl rfl)) (so_acons (so_op dSub_ok (so_var 1 rfl (Or.inl rfl)) (so_var 4 rfl (Or.inl rfl))) so_anil)) (hr.mono (by decide)) (hn := (ar_cons (ar_cons ar_nil)))) so_anil)) so_anil)))) po rfl)
      (ss_one (s_ret (so_callTy dTuple_ok rfl (T.free 21) boot_tuple (so_acons (so_var 3 rfl (Or.inl rfl)) so_anil)))))))
theorem sc__law_parted : FnScope N__law_parted ["_law_pile", "_law_many"] (defScope s__law_parted) := ⟨rfl, rfl, rfl, by decide +kernel, rfl, by decide +kernel, by decide +kernel⟩
theorem c__law_parted (T : Tx fa fn K mg) : Cal P w K mg base (ca K) "_law_parted" ["_law_pile", "_law_many"] f__law_parted 2 :=
  mk_cal T 11 11 sc__law_parted rfl rfl rfl rfl (fun _ _ _ _ _ _ us hl => match us, hl with | [_, _], _ => rfl) fun k f cdv A outer s H E hr => by
    have hu := hu_70 hr
    have nd := sc__law_parted.nd
    have tk := takes_of (X := cxOf (L2.CX P w) P w K mg base N__law_parted "_law_parted" (defScope s__law_parted) f cdv A outer s H E) rfl rfl rfl rfl
    have hp := pw_tk tk
    have po := passes_of (X := cxOf (L2.CX P w) P w K mg base N__law_parted "_law_parted" (defScope s__law_parted) f cdv A outer s H E) rfl
    exact (ss_cons (s_set 2 (so_lst so_anil) nd rfl (Or.inl rfl))
      (ss_cons (s_set 3 (so_lst so_anil) nd rfl (Or.inl rfl))
      (ss_cons (s_for (PI_rg1 (so_var 1 rfl (Or.inl rfl)) (T.free 13)) (pg_name (i := 4) nd rfl (Or.inl rfl)) (ss_one (s_if (st_cmp (dEq_ok hu) (so_callF (c__law_take T) hp (so_acons (so_var 0 rfl (Or.inl rfl)) (so_acons so_int so_anil)) (hr.mono (by decide)) (hn := (ar_cons (ar_cons ar_nil)))) so_int) (ss_one (s_expr (so_bm PySem.F.plainAttrs_list PySem.F.slot_list_append PySem.F.type_list_append dAppend_ok isLst_ty (so_var 2 rfl (Or.inl rfl)) (so_acons (so_var 4 rfl (Or.inl rfl)) so_anil)))) (ss_one (s_expr (so_bm PySem.F.plainAttrs_list PySem.F.slot_list_append PySem.F.type_list_append dAppend_ok isLst_ty (so_var 3 rfl (Or.inl rfl)) (so_acons (so_var 4 rfl (Or.inl rfl)) so_anil)))))) po rfl)
      (ss_one (s_ret (so_callTy dTuple_ok rfl (T.free 21) boot_tuple (so_acons (so_op dAdd_ok (so_var 2 rfl (Or.inl rfl)) (so_var 3 rfl (Or.inl rfl))) so_anil)))))))
theorem sc_law : FnScope N_law ["_law_script"] (defScope s_law) := ⟨rfl, rfl, rfl, by decide +kernel, rfl, by decide +kernel, by decide +kernel⟩
theorem o_law (T : Tx fa fn K mg) {a : Addr} {fd : FuncData} (F : FunD K "law" "law" (defArgs s_law) (defBody s_law) (defScope s_law) [] [] a fd) : FnOk P w K mg base (L2.CX P w) 7 a fd ["_law_script"] (spF K (ca K) 1 f_law) :=
  mk_fn F sc_law rfl rfl fun k f cdv A outer s H E hr => by
    have hu := hu_70 hr
    have nd := sc_law.nd
    have tk := takes_of (X := cxOf (L2.CX P w) P w K mg base N_law "law" (defScope s_law) f cdv A outer s H E) rfl rfl rfl rfl
    have hp := pw_tk tk
    have po := passes_of (X := cxOf (L2.CX P w) P w K mg base N_law "law" (defScope s_law) f cdv A outer s H E) rfl
    exact (ss_cons (s_for (PI_rg1 so_int (T.free 13)) (pg_name (i := 1) nd rfl (Or.inl rfl)) (ss_cons (s_set 2 (so_lst (so_acons (so_callF (c__law_cell T) hp (so_acons (so_var 0 rfl (Or.inl rfl)) (so_acons (so_var 1 rfl (Or.inl rfl)) so_anil)) (hr.mono (by decide)) (hn := (ar_cons (ar_cons ar_nil)))) so_anil)) nd rfl (Or.inl rfl))
      (ss_cons (s_set 3 (so_op dAdd_ok so_int (so_callF (c__law_take T) hp (so_acons (so_var 2 rfl (Or.inl rfl)) (so_acons so_int so_anil)) (hr.mono (by decide)) (hn := (ar_cons (ar_cons ar_nil))))) nd rfl (Or.inl rfl))
      (ss_cons (s_set 4 (so_callF (c__law_order T) hp (so_acons (so_var 2 rfl (Or.inl rfl)) (so_acons (so_var 3 rfl (Or.inl rfl)) so_anil)) (hr.mono (by decide)) (hn := (ar_cons (ar_cons ar_nil)))) nd rfl (Or.inl rfl))
      (ss_one (s_if (SW.st (sw_or (st_not (st_val (so_callF (c__law_good T) hp (so_acons (so_var 4 rfl (Or.inl rfl)) so_anil) (hr.mono (by decide)) (hn := (ar_cons ar_nil))))) (sw_or1 (st_not (st_val (so_callF (c__law_good T) hp (so_acons (so_callF (c__law_parted T) hp (so_acons (so_var 2 rfl (Or.inl rfl)) (so_acons (so_var 3 rfl (Or.inl rfl)) so_anil)) (hr.mono (by decide)) (hn := (ar_cons (ar_cons ar_nil)))) so_anil) (hr.mono (by decide)) (hn := (ar_cons ar_nil)))))))) (ss_one (s_ret so_bl)) ss_nil))))) po rfl)
      (ss_one (s_ret (so_and (so_callF (c__law_good T) hp (so_acons (so_tup (so_acons so_int so_anil)) so_anil) (hr.mono (by decide)) (hn := (ar_cons ar_nil))) (so_and (so_callF (c__law_good T) hp (so_acons (so_tup (so_acons so_int (so_acons so_int (so_acons so_int (so_acons so_int (so_acons so_int so_anil)))))) so_anil) (hr.mono (by decide)) (hn := (ar_cons ar_nil))) (so_one (so_callF (c__law_good T) hp (so_acons (so_tup (so_acons so_int (so_acons so_int (so_acons so_int (so_acons so_int (so_acons so_int so_anil)))))) so_anil) (hr.mono (by decide)) (hn := (ar_cons ar_nil)))))))))
end
theorem run (w : World) : HandSHeadRun.RunEq R (PySem.W.view R.prog [20]) hk ob 4000 loose w := by
  intro os
  kernel_rfl
end K68
open PySem PySem.W PySem.Calls PyProof.Rows
theorem K68.fin (hrun : ∀ ns : List Int, ns.length ≤ 63 → ∃ m, K68.f_law [] [.ref 0] [.frz (ns.map CB.D.int)] = .ok (.bl true) m) : PySem.Challenge.rw_crossbends_k68_orders_with_one_fall.Holds := by
  w_on; o_law
  refine HandSHeadRun.head_any (r := OpenLaw.row PySem.Challenge.rw_crossbends_k68_orders_with_one_fall) (q := view (OpenLaw.row PySem.Challenge.rw_crossbends_k68_orders_with_one_fall).prog [20]) (H := K68.hk) (ob := K68.ob) (M := 4000) (loose := K68.loose) (d := HandSHeadRun.topDef (OpenLaw.row PySem.Challenge.rw_crossbends_k68_orders_with_one_fall).prog 20) (kwd := []) K68.ob_eq
    (by kernel_rfl) (fun s => by kernel_rfl) K68.run (by kernel_rfl) (by kernel_rfl) (by kernel_rfl) (by rfl) (by first | assumption | decide +kernel) (by decide +kernel) ⟨rfl, rfl, rfl, rfl, rfl, by decide +kernel⟩ ?hw ?hc
  case hw => w_witness2
  case hc =>
    refine L2.walk_ofE (l := PySem.Challenge.rw_crossbends_k68_orders_with_one_fall) (n := 63) (k := 7) (x := "_law_script") (CX := L2.CX0) rfl (by decide) (by kernel_rfl) ⟨rfl, by decide, by decide⟩ ?F (fun _ _ _ _ z => z)
    intro w mg fa' h Y G hmg0
    obtain ⟨K, KX, c⟩ := Y
    have hmg : mg ("law" : PySem.Str) = some (.ref fa') := by
      have e : (HandSHeadRun.topDef (OpenLaw.row PySem.Challenge.rw_crossbends_k68_orders_with_one_fall).prog 20).name = ("law" : PySem.Str) := by kernel_rfl
      rw [← e]
      exact hmg0
    have T : CB.Tx K68.fa K68.fn K mg := ⟨c.says, h, KX, G⟩
    obtain ⟨fd, F⟩ := T.says.def_ 12 rfl
    have e := hmg.symm.trans (T.glo 12)
    cases e
    exact ⟨K, fd, (fun vs H Q _ => CB.spF K (K68.ca K) 1 K68.f_law vs H Q fun _ _ _ => False), KX, fun s v => L2.FunD.bindsA (ps := ["_law_script"]) F (fun _ _ _ _ _ _ us hl => match us, hl with | [_], _ => rfl) s [v] rfl, fun H a ns hl hO hS => CB.law_sp c.no hO hS (hrun ns hl), fun base _ _ => CB.cx0 (K68.o_law T F)⟩


set_option Elab.async false
set_option linter.all false
set_option maxRecDepth 100000
set_option maxHeartbeats 4000000
namespace K68
open CB
def pts : Nat → Nat → List Int → List Int → List (List Int)
  | 0, _, a, b => [a ++ b]
  | n + 1, i, a, b => pts n (i + 1) (a ++ [(i : Int)]) b ++ pts n (i + 1) a (b ++ [(i : Int)])
theorem parted_loop (many : Nat) (hm : many ≤ 100) : ∀ (n i : Nat) (x : Int) (a b : List Int) (y : Option D), i + n = many → a.length + b.length = i → 0 ≤ x → ∃ a' b' : List Int, (a' ++ b') ∈ pts n i a b ∧ a'.length + b'.length = many ∧ ∃ (x' : Int) (y' : Option D), 0 ≤ x' ∧
    forN [1] (srcR 0 many) (.one 4) (sIf (tcV (eOp dEq (eCallF f__law_take (aCons (eVar 0) (aCons (eK (.int 2)) (aNil)))) (eK (.int 0)))) (sExpr (eMt isLst dAppend (eVar 2) (aCons (eVar 4) (aNil)))) (sExpr (eMt isLst dAppend (eVar 3) (aCons (eVar 4) (aNil))))) n i [some (.ref 0), some (.int many), some (.ref 1), some (.ref 2), y] [.lst [.int x], .lst (a.map .int), .lst (b.map .int)] =
      .nx [some (.ref 0), some (.int many), some (.ref 1), some (.ref 2), y'] [.lst [.int x'], .lst (a'.map .int), .lst (b'.map .int)]
  | 0, i, x, a, b, y, hi, hl, h0 => by
    refine ⟨a, b, by simp [pts], by omega, x, y, h0, ?_⟩
    unfold forN
    have : Nat.blt i many = false := by
      cases e : Nat.blt i many with
      | false => rfl
      | true => rw [Nat.blt_eq] at e; omega
    simp [srcR, this]
  | n + 1, i, x, a, b, y, hi, hl, h0 => by
    have hb : Nat.blt i many = true := by rw [Nat.blt_eq]; omega
    have s1 : small 8000 (2 : Int) = true := small_b (by decide)
    have ht : footF f__law_take [.ref 0, .int 2] [.lst [.int x], .lst (a.map .int), .lst (b.map .int)] = _ := foot_take (i := 0) (x := x) rfl (by decide) s1
    have q0 : 0 ≤ x / 2 := Int.ediv_nonneg h0 (by omega)
    have hk : decide (i < 2 ^ 60) = true := decide_eq_true (by omega)
    have hfa : a.length ≤ lim := by unfold lim; omega
    have hfb : b.length ≤ lim := by unfold lim; omega
    by_cases h : x % 2 = 0
    · obtain ⟨a', b', hm', hl', x', y', hx0, ih⟩ := parted_loop many hm n (i + 1) (x / 2) (a ++ [(i : Int)]) b (some (.int (i : Int))) (by omega) (by simp; omega) q0
      refine ⟨a', b', by unfold pts; exact List.mem_append.mpr (.inl hm'), hl', x', y', hx0, ?_⟩
      unfold forN
      rw [← ih]
      simp [srcR, hb, Tg.put, sIf, tcV, eOp, eCallF, eVar, eK, aCons, aNil, nth, R.bind, ht, h, dEq, eqD, O.r, sExpr, eMt, isLst, dAppend, Mem.put, hfa, stOk, D.lo, R.st, RS.seq]
    · obtain ⟨a', b', hm', hl', x', y', hx0, ih⟩ := parted_loop many hm n (i + 1) (x / 2) a (b ++ [(i : Int)]) (some (.int (i : Int))) (by omega) (by simp; omega) q0
      refine ⟨a', b', by unfold pts; exact List.mem_append.mpr (.inr hm'), hl', x', y', hx0, ?_⟩
      unfold forN
      rw [← ih]
      simp [srcR, hb, Tg.put, sIf, tcV, eOp, eCallF, eVar, eK, aCons, aNil, nth, R.bind, ht, h, dEq, eqD, O.r, sExpr, eMt, isLst, dAppend, Mem.put, hfb, stOk, D.lo, R.st, RS.seq]
theorem parted_ok (many : Nat) (hm : many ≤ 100) (x : Int) (h0 : 0 ≤ x) : ∃ o ∈ pts many 0 [] [], ∃ x' : Int, 0 ≤ x' ∧ f__law_parted [] [.ref 0, .int many] [.lst [.int x]] = .ok (.tup (o.map .int)) [.lst [.int x']] := by
  obtain ⟨a, b, ho, hlen, x', y', hx0, hl⟩ := parted_loop many hm many 0 x [] [] none (by omega) rfl h0
  refine ⟨a ++ b, ho, x', hx0, ?_⟩
  have t5 : small 40 (many : Int) = true := small_p (a := 7) (by omega) (by decide)
  have t6 : small 40 (0 : Int) = true := small_p (a := 5) (by decide) (by decide)
  have t9 : ((many : Int) - 0).toNat = many := by omega
  have t10 : a.length + b.length ≤ lim := by unfold lim; omega
  have l1 : D.lo 1 (.tup ((a ++ b).map D.int)) = true := loL_ints 1 _
  simp only [List.map_nil] at hl
  simp only [List.map_append] at l1
  unfold f__law_parted mkFn
  simp [t10, startE, sSeq, sAsg, rg1, eVar, nth, R.bind, t6, t5, newL, O.r, R.st, Tg.put, List.set, RS.seq, eLst, eOp, aNil, Mem.push, sFor, icRg, t9, hl, sRet, eBI, aCons, dAdd, dTuple, seqOf, lstOf, callR, gcR, l1]
def okB (r : CB.R D) : Bool := match r with
  | .ok (.bl true) [] => true
  | _ => false
theorem okB_eq {r : CB.R D} (h : okB r = true) : r = .ok (.bl true) [] := by
  unfold okB at h
  split at h
  · rfl
  · exact absurd h (by decide)
def allIn (n : Nat) : List (List Int) := outs n ((List.range n).map Int.ofNat) ++ pts n 0 [] []
theorem good_all : ((List.range 6).all fun n => (allIn n).all fun o => n == 0 || okB (f__law_good [] [.tup (o.map .int)] [])) = true := by decide +kernel
theorem good_in {n : Nat} {o : List Int} (h1 : 1 ≤ n) (h5 : n ≤ 5) (h : o ∈ allIn n) : f__law_good [] [.tup (o.map .int)] [] = .ok (.bl true) [] := by
  have a := List.all_eq_true.mp good_all n (List.mem_range.mpr (by omega))
  have b := List.all_eq_true.mp a o h
  have e : (n == 0) = false := by cases n with
    | zero => omega
    | succ n => rfl
  rw [e] at b
  exact okB_eq b
theorem nth_end {α : Type} (l : List α) (a : α) : nth (l ++ [a]) l.length = some a := by rw [nth_eq]; simp
theorem put_end (m : Mem) (c c' : Cell) : Mem.put (m ++ [c]) m.length c' = m ++ [c'] := by unfold Mem.put; simp
theorem foot_end {f : FC} {xs : List D} {d : D} {ds ds' : List D} {m : Mem} (hx : argsF xs [m.length] = some (xs, [m.length])) (hc : D.loL 0 ds = true) (hc' : D.loL 0 ds' = true) (h : f [] (.ref 0 :: xs) [.lst ds] = .ok d [.lst ds']) (hd : d.lo 0 = true) : footF f (.ref m.length :: xs) (m ++ [.lst ds]) = some (.ok d (m ++ [.lst ds'])) := by
  refine foot_one (ys := .ref 0 :: xs) (i := m.length) (c := .lst ds) ?_ ?_ h ?_ hd
  · unfold argsF idx; simp [hx]
  · unfold cellF; rw [nth_end]; simp [hc]
  · unfold backF; simp [nth, hc', put_end, backF]
theorem foot_tup {f : FC} {o : List Int} {m : Mem} (h : f [] [.tup (o.map .int)] [] = .ok (.bl true) []) : footF f [.tup (o.map .int)] m = some (.ok (.bl true) m) :=
  foot_pure (by simp [argsF, D.lo, loL_ints]) h rfl
theorem law_loop (ns : List Int) (hn : ns.length ≤ 63) : ∀ (n i : Nat) (r : Mem) (y1 y2 y3 y4 : Option D), i + n = 6 → ∃ (m' : Mem) (z1 z2 z3 z4 : Option D),
    forN [1] (srcR 0 6) (.one 1) ((sSeq (sAsg (.one 2) (eLst (aCons (eCallF f__law_cell (aCons (eVar 0) (aCons (eVar 1) (aNil)))) (aNil)))) (sSeq (sAsg (.one 3) (eOp dAdd (eK (.int 1)) (eCallF f__law_take (aCons (eVar 2) (aCons (eK (.int 5)) (aNil)))))) (sSeq (sAsg (.one 4) (eCallF f__law_order (aCons (eVar 2) (aCons (eVar 3) (aNil))))) (sIf (tcOr (tcNot (tcV (eCallF f__law_good (aCons (eVar 4) (aNil))))) (tcNot (tcV (eCallF f__law_good (aCons (eCallF f__law_parted (aCons (eVar 2) (aCons (eVar 3) (aNil)))) (aNil)))))) (sRet (eK (.bl false))) (sPass)))))) n i [some (.ref 0), y1, y2, y3, y4] (.frz (ns.map .int) :: r) = .nx [some (.ref 0), z1, z2, z3, z4] m'
  | 0, i, r, y1, y2, y3, y4, hi => by
    refine ⟨.frz (ns.map .int) :: r, y1, y2, y3, y4, ?_⟩
    unfold forN
    have : Nat.blt i 6 = false := by
      cases e : Nat.blt i 6 with
      | false => rfl
      | true => rw [Nat.blt_eq] at e; omega
    simp [srcR, this]
  | n + 1, i, r, y1, y2, y3, y4, hi => by
    have hb : Nat.blt i 6 = true := by rw [Nat.blt_eq]; omega
    obtain ⟨c, c0, hc⟩ := cell_ok ns (i : Int) (by omega) hn
    have g1 : footF f__law_cell [.ref 0, .int (i : Int)] (.frz (ns.map .int) :: r) = some (.ok (.int c) (.frz (ns.map .int) :: r)) := by
      refine foot_one (ys := [.ref 0, .int (i : Int)]) (i := 0) (c := .frz (ns.map .int)) rfl ?_ hc ?_ rfl
      · unfold cellF; simp [nth, loL_ints]
      · unfold backF; simp [nth, loL_ints, Mem.put, backF]
    obtain ⟨m0, hm0⟩ : ∃ m0, m0 = Cell.frz (ns.map D.int) :: r := ⟨_, rfl⟩
    have g2 : footF f__law_take [.ref m0.length, .int 5] (m0 ++ [.lst [.int c]]) = _ := foot_end (m := m0) rfl rfl rfl (take_ok c 5 (by decide) (small_b (by decide))) rfl
    have d0 : 0 ≤ c % 5 := Int.emod_nonneg _ (by omega)
    have d1 : c % 5 < 5 := Int.emod_lt_of_pos _ (by decide)
    obtain ⟨k, hk⟩ : ∃ k : Nat, 1 + c % 5 = (k : Int) := ⟨(1 + c % 5).toNat, by omega⟩
    have q0 : 0 ≤ c / 5 := Int.ediv_nonneg c0 (by omega)
    obtain ⟨o, ho, x1, hx1, h3⟩ := order_ok k (by omega) (c / 5) q0
    have g3 : footF f__law_order [.ref m0.length, .int k] (m0 ++ [.lst [.int (c / 5)]]) = _ := foot_end (m := m0) rfl rfl rfl h3 (loL_ints 0 _)
    obtain ⟨p, hp, x2, hx2, h4⟩ := parted_ok k (by omega) x1 hx1
    have g4 : footF f__law_parted [.ref m0.length, .int k] (m0 ++ [.lst [.int x1]]) = _ := foot_end (m := m0) rfl rfl rfl h4 (loL_ints 0 _)
    have g5 : footF f__law_good [.tup (o.map .int)] (m0 ++ [.lst [.int x1]]) = _ := foot_tup (good_in (n := k) (by omega) (by omega) (List.mem_append.mpr (.inl ho)))
    have g6 : footF f__law_good [.tup (p.map .int)] (m0 ++ [.lst [.int x2]]) = _ := foot_tup (good_in (n := k) (by omega) (by omega) (List.mem_append.mpr (.inr hp)))
    obtain ⟨m', z1, z2, z3, z4, ih⟩ := law_loop ns hn n (i + 1) (r ++ [.lst [.int x2]]) (some (.int (i : Int))) (some (.ref m0.length)) (some (.int k)) (some (.tup (o.map .int))) (by omega)
    refine ⟨m', z1, z2, z3, z4, ?_⟩
    rw [← ih]
    rw [← List.cons_append, ← hm0]
    rw [← hm0] at g1
    rw [forN_rg (by omega)]
    simp [Tg.put, sSeq, sAsg, sIf, tcV, tcOr, tcNot, eOp, eCallF, eVar, eK, eLst, newL, Mem.push, aCons, aNil, nth, R.bind, g1, g2, g3, g4, g5, g6, dAdd, hk, O.r, R.st, RS.seq, List.set, sPass, lim, show small 8000 (1 : Int) = true from small_b (by decide)]
theorem law_ok (ns : List Int) (hn : ns.length ≤ 63) : ∃ m, f_law [] [.ref 0] [.frz (ns.map .int)] = .ok (.bl true) m := by
  obtain ⟨m', z1, z2, z3, z4, hl⟩ := law_loop ns hn 6 0 [] none none none none rfl
  have a1 : f__law_good [] [.tup ([0].map .int)] [] = .ok (.bl true) [] := good_in (n := 1) (by decide) (by decide) (by decide)
  have a2 : f__law_good [] [.tup ([0, 1, 2, 3, 4].map .int)] [] = .ok (.bl true) [] := good_in (n := 5) (by decide) (by decide) (List.mem_append.mpr (.inl (by decide +kernel)))
  have a3 : f__law_good [] [.tup ([4, 3, 2, 1, 0].map .int)] [] = .ok (.bl true) [] := good_in (n := 5) (by decide) (by decide) (List.mem_append.mpr (.inl (by decide +kernel)))
  have b1 := foot_tup (m := m') a1
  have b2 := foot_tup (m := m') a2
  have b3 := foot_tup (m := m') a3
  simp only [List.map_cons, List.map_nil] at b1 b2 b3
  have t5 : small 40 (6 : Int) = true := small_p (a := 5) (by decide) (by decide)
  have t6 : small 40 (0 : Int) = true := small_p (a := 5) (by decide) (by decide)
  have t7 : ((6 : Int) - 0).toNat = 6 := rfl
  refine ⟨m'.take 1, ?_⟩
  unfold f_law mkFn
  simp [show 1 ≤ lim by decide, show 5 ≤ lim by decide, callR, startE, sSeq, sFor, icRg, rg1, eK, R.bind, t5, t6, t7, hl, RS.seq, sRet, eAnd, eCallF, eTup, aCons, aNil, b1, b2, b3, R.st, gcR, D.lo]
end K68
theorem PySem.Challenge.cw_crossbends_k68_orders_with_one_fall_holds : PySem.Challenge.rw_crossbends_k68_orders_with_one_fall.Holds := by
  exact K68.fin K68.law_ok

